import PyProof.Rows.All
import Wide.All
import OpenK.AllK
import Wide.FinOn
import HandS.ForMost
import HandS.ForExc
import HandS.Walk
import HandS.Zip
import HandS.Defaults
import HandS.HeadHook1
import HandS.HeadHook2
import KE.GoesEnum
import KE.GoesMore
import HandS.RevRange
import HandS.Rev
import HandS.TupAny
import HandS.TupLe
import HandS.Wide
import HandS.Deep
import HandS.IsInst
import HandS.Conv
import HandS.Dict
import HandS.Head0
import HandS.Head1
import HandS.Head2
import HandS.HeadEnd
import HandS.RevTup
import PySem.Challenge.RW_unmix_k06_bars_among_rows
set_option Elab.async false
set_option linter.all false
set_option maxRecDepth 100000
set_option maxHeartbeats 4000000
/-! The data layer: a def's body read as a function from data to data. -/
namespace Dl
open PySem PySem.Spec PyProof.Rows L2

/-- what a piece of code does with data: stuck (nothing is claimed), an exception of the class named x, a value -/
inductive M (α : Type) where
  | stuck
  | exc (x : Str)
  | ok (a : α)
def M.bind {α β : Type} : M α → (α → M β) → M β
  | .stuck, _ => .stuck
  | .exc x, _ => .exc x
  | .ok a, f => f a
@[simp] theorem bind_ok {α β : Type} (a : α) (f : α → M β) : (M.ok a).bind f = f a := rfl
@[simp] theorem bind_exc {α β : Type} (x : Str) (f : α → M β) : (M.exc x : M α).bind f = .exc x := rfl
@[simp] theorem bind_stuck {α β : Type} (f : α → M β) : (M.stuck : M α).bind f = .stuck := rfl

def keyD : Key → PyData
  | .inl i => .int i
  | .inr x => .str x

/-! ### what stands for what -/
mutual
/-- the value v is the data d in the heap H -/
inductive R (K : PySem.W.Frag) (H : Hp) : V → PyData → Prop
  | non : R K H .non .none
  | bl (b : Bool) : R K H (.bl b) (.bool b)
  | int (i : Int) : R K H (.int i) (.int i)
  | str (x : Str) : R K H (.str x) (.str x)
  | lst {a : Addr} {xs : List V} {ds : List PyData} : H a = some (.lst xs) → RA K H xs ds → R K H (.ref a) (.list ds)
  | tup {a : Addr} {xs : List V} {ds : List PyData} : H a = some (.tup xs) → RA K H xs ds → R K H (.ref a) (.tuple ds)
  | tupF {a : Addr} {xs : List V} {ds : List PyData} : (∀ G : Hp, SqT K G a xs) → RA K H xs ds → R K H (.ref a) (.dict [(.bool false, .tuple ds)])
  | dK {a : Addr} {kvs : List (Key × V)} {vs : List PyData} : H a = some (.dK kvs) → RA K H (kvs.map (·.2)) vs → R K H (.ref a) (.dict ((kvs.map fun p => keyD p.1).zip vs))
  | dT {a : Addr} {kvs : List (List Key × V)} {vs : List PyData} : H a = some (.dT kvs) → RA K H (kvs.map (·.2)) vs → R K H (.ref a) (.dict ((PyData.bool true, PyData.none) :: (kvs.map fun p => PyData.tuple (p.1.map keyD)).zip vs))
  | ins {a dx : Addr} {x : Str} {fs : List (Str × V)} {vs : List PyData} : H a = some (.ins (He.ga K x) dx fs) → RA K H (fs.map (·.2)) vs → R K H (.ref a) (.dict ((.none, .str x) :: (fs.map fun p => PyData.str p.1).zip vs))
  | scr {a : Addr} {ns : List Int} : SqL K H a (ns.map V.int) → R K H (.ref a) (.dict [(.none, .list (ns.map .int))])
inductive RA (K : PySem.W.Frag) (H : Hp) : List V → List PyData → Prop
  | nil : RA K H [] []
  | cons {v : V} {vs : List V} {d : PyData} {ds : List PyData} : R K H v d → RA K H vs ds → RA K H (v :: vs) (d :: ds)
end

def Ex (H H' : Hp) : Prop := ∀ a o, H a = some o → H' a = some o
theorem Ex.refl (H : Hp) : Ex H H := fun _ _ h => h
theorem Ex.trans {H H1 H2 : Hp} (a : Ex H H1) (b : Ex H1 H2) : Ex H H2 := fun x o h => b x o (a x o h)
theorem Ex.new {H : Hp} {p : Addr} {o : HO} (h : H p = none) : Ex H (upd H p o) := fun a u e => by
  rw [upd_ne (ne_of_none e h)]
  exact e
theorem Ex.back {H H' : Hp} {p : Addr} (e : Ex H H') (h : H' p = none) : H p = none := by
  cases h1 : H p with
  | none => rfl
  | some o =>
    rw [e p o h1] at h
    cases h
theorem Ex.same {H H' : Hp} (e : Ex H H') : Same H H' := e
theorem ex_t {K : PySem.W.Frag} {H H' : Hp} {a : Addr} {xs : List V} (e : Ex H H') (h : SqT K H a xs) : SqT K H' a xs := by
  rcases h with (h | ⟨o, h⟩) | h
  · exact .inl (.inl (e _ _ h))
  · exact .inl (.inr ⟨o, e _ _ h⟩)
  · exact .inr h
section
variable {K : PySem.W.Frag} {H H' : Hp}
theorem ex_u {K : PySem.W.Frag} {H H' : Hp} {a : Addr} {xs : List V} (e : Ex H H') (h : H a = some (.tup xs)) : SqT K H' a xs := .of (e _ _ h)
mutual
theorem R.mono (e : Ex H H') : ∀ {v : V} {d : PyData}, R K H v d → R K H' v d
  | _, _, .non => .non
  | _, _, .bl b => .bl b
  | _, _, .int i => .int i
  | _, _, .str x => .str x
  | _, _, .lst h r => .lst (e _ _ h) (RA.mono e r)
  | _, _, .tup h r => .tup (e _ _ h) (RA.mono e r)
  | _, _, .tupF h r => .tupF h (RA.mono e r)
  | _, _, .dK h r => .dK (e _ _ h) (RA.mono e r)
  | _, _, .dT h r => .dT (e _ _ h) (RA.mono e r)
  | _, _, .ins h r => .ins (e _ _ h) (RA.mono e r)
  | _, _, .scr h => .scr (Same.seq e h)
theorem RA.mono (e : Ex H H') : ∀ {vs : List V} {ds : List PyData}, RA K H vs ds → RA K H' vs ds
  | _, _, .nil => .nil
  | _, _, .cons r q => .cons (R.mono e r) (RA.mono e q)
end
theorem RA.length : ∀ {vs : List V} {ds : List PyData}, RA K H vs ds → vs.length = ds.length
  | _, _, .nil => rfl
  | _, _, .cons _ q => congrArg Nat.succ (RA.length q)
theorem RA.get : ∀ {vs : List V} {ds : List PyData} {i : Nat} {d : PyData}, RA K H vs ds → ds[i]? = some d → ∃ v, vs[i]? = some v ∧ R K H v d
  | _, _, 0, _, .cons r _, e => by
    simp at e
    subst e
    exact ⟨_, rfl, r⟩
  | _, _, i + 1, d, .cons _ q, e => by
    obtain ⟨v, h1, h2⟩ := RA.get (i := i) (d := d) q (by simpa using e)
    exact ⟨v, by simpa using h1, h2⟩
theorem RA.getV : ∀ {vs : List V} {ds : List PyData} {i : Nat} {v : V}, RA K H vs ds → vs[i]? = some v → ∃ d, ds[i]? = some d ∧ R K H v d
  | _, _, 0, _, .cons r _, e => by
    simp at e
    subst e
    exact ⟨_, rfl, r⟩
  | _, _, i + 1, v, .cons _ q, e => by
    obtain ⟨d, h1, h2⟩ := RA.getV (i := i) (v := v) q (by simpa using e)
    exact ⟨d, by simpa using h1, h2⟩
theorem RA.append : ∀ {vs ws : List V} {ds es : List PyData}, RA K H vs ds → RA K H ws es → RA K H (vs ++ ws) (ds ++ es)
  | _, _, _, _, .nil, s => s
  | _, _, _, _, .cons r t, s => .cons r (RA.append t s)
theorem RA.take : ∀ {vs : List V} {ds : List PyData} (n : Nat), RA K H vs ds → RA K H (vs.take n) (ds.take n)
  | _, _, 0, _ => .nil
  | _, _, _ + 1, .nil => .nil
  | _, _, n + 1, .cons r t => .cons r (RA.take n t)
theorem RA.drop : ∀ {vs : List V} {ds : List PyData} (n : Nat), RA K H vs ds → RA K H (vs.drop n) (ds.drop n)
  | _, _, 0, r => r
  | _, _, _ + 1, .nil => .nil
  | _, _, n + 1, .cons _ t => RA.drop n t
theorem RA.set : ∀ {vs : List V} {ds : List PyData} {v : V} {d : PyData} (i : Nat), RA K H vs ds → R K H v d → RA K H (vs.set i v) (ds.set i d)
  | _, _, _, _, _, .nil, _ => .nil
  | _, _, _, _, 0, .cons _ t, q => .cons q t
  | _, _, _, _, i + 1, .cons r t, q => .cons r (RA.set i t q)
theorem RA.eraseIdx : ∀ {vs : List V} {ds : List PyData} (i : Nat), RA K H vs ds → RA K H (vs.eraseIdx i) (ds.eraseIdx i)
  | _, _, _, .nil => .nil
  | _, _, 0, .cons _ t => t
  | _, _, i + 1, .cons r t => .cons r (RA.eraseIdx i t)
theorem RA.dropLast {vs : List V} {ds : List PyData} (r : RA K H vs ds) : RA K H vs.dropLast ds.dropLast := by
  rw [List.dropLast_eq_take, List.dropLast_eq_take, r.length]
  exact r.take _
theorem RA.snoc {vs : List V} {ds : List PyData} {v : V} {d : PyData} (r : RA K H vs ds) (q : R K H v d) : RA K H (vs ++ [v]) (ds ++ [d]) := r.append (.cons q .nil)
theorem RA.reverse : ∀ {vs : List V} {ds : List PyData}, RA K H vs ds → RA K H vs.reverse ds.reverse
  | _, _, .nil => .nil
  | _, _, .cons r t => by
    rw [List.reverse_cons, List.reverse_cons]
    exact (RA.reverse t).snoc r
theorem RA.ints : ∀ {vs : List V} {ns : List Int}, RA K H vs (ns.map PyData.int) → vs = ns.map V.int
  | _, [], .nil => rfl
  | _, n :: ns, .cons r t => by
    cases r
    rw [RA.ints t]
    rfl
theorem ra_ints : ∀ ns : List Int, RA K H (ns.map V.int) (ns.map PyData.int)
  | [] => .nil
  | n :: ns => .cons (.int n) (ra_ints ns)
theorem RA.bools : ∀ {vs : List V} {bs : List Bool}, RA K H vs (bs.map PyData.bool) → vs = bs.map V.bl
  | _, [], .nil => rfl
  | _, n :: ns, .cons r t => by
    cases r
    rw [RA.bools t]
    rfl
end

/-! ### the deep data of HandS -/
section
variable {K : PySem.W.Frag} {H : Hp}
mutual
theorem R.dp : ∀ {v : V} {d : PyData}, R K H v d → d.canLay0 = true → Dp K H v d
  | _, _, .non, _ => .non
  | _, _, .bl b, _ => .bl b
  | _, _, .int i, _ => .int i
  | _, _, .str x, _ => .str x
  | _, _, .lst h r, c => .lst (.of h) (RA.dp r (by simpa [PyData.canLay0] using c))
  | _, _, .tup h r, c => .tup (.of h) (RA.dp r (by simpa [PyData.canLay0] using c))
  | _, _, .tupF h r, c => by simp [PyData.canLay0] at c
  | _, _, .dK h r, c => by simp [PyData.canLay0] at c
  | _, _, .dT h r, c => by simp [PyData.canLay0] at c
  | _, _, .ins h r, c => by simp [PyData.canLay0] at c
  | _, _, .scr h, c => by simp [PyData.canLay0] at c
theorem RA.dp : ∀ {vs : List V} {ds : List PyData}, RA K H vs ds → PyData.canLayAll0 ds = true → DpAll K H vs ds
  | _, _, .nil, _ => .nil
  | _, _, .cons r q, c => by
    rw [PyData.canLayAll0, Bool.and_eq_true] at c
    exact .cons (R.dp r c.1) (RA.dp q c.2)
end
end

/-! ### the heap's halves: B is what is fixed, H all; how they grow -/
structure Gr (B H B' H' : Hp) : Prop where
  b : Ex B B'
  h : Ex H H'
  s : Ex B' H'
  l : ∀ a o, H a = some o → B a = none → B' a = none
theorem Gr.refl {B H : Hp} (e : Ex B H) : Gr B H B H := ⟨.refl _, .refl _, e, fun _ _ _ h => h⟩
theorem Gr.trans {B H B1 H1 B2 H2 : Hp} (x : Gr B H B1 H1) (y : Gr B1 H1 B2 H2) : Gr B H B2 H2 :=
  ⟨x.b.trans y.b, x.h.trans y.h, y.s, fun a o h n => y.l a o (x.h a o h) (x.l a o h n)⟩
/-- a new object, fixed at once -/
theorem Gr.new {B H : Hp} {p : Addr} {o : HO} (e : Ex B H) (h : H p = none) : Gr B H (upd B p o) (upd H p o) := by
  have hb : B p = none := e.back h
  refine ⟨.new hb, .new h, fun a u q => ?_, fun a u q n => ?_⟩
  · by_cases z : a = p
    · subst z
      rw [upd_same] at q ⊢
      exact q
    · rw [upd_ne z] at q ⊢
      exact e a u q
  · rw [upd_ne (ne_of_none q h)]
    exact n
/-- a new object that may still change -/
theorem Gr.own {B H : Hp} {p : Addr} {o : HO} (e : Ex B H) (h : H p = none) : Gr B H B (upd H p o) := ⟨.refl _, .new h, e.trans (.new h), fun _ _ _ n => n⟩

/-! ### values of expressions: fixed data, or a new object of one's own -/
inductive Sl where
  | dat (d : PyData)
  | own (d : PyData)
def Sl.d : Sl → PyData
  | .dat d => d
  | .own d => d
@[simp] theorem Sl.d_dat (d : PyData) : (Sl.dat d).d = d := rfl
@[simp] theorem Sl.d_own (d : PyData) : (Sl.own d).d = d := rfl
abbrev Env := List (Option Sl)

/-- at p there stands d, its items in B -/
inductive Top (K : PySem.W.Frag) (B : Hp) : HO → PyData → Prop
  | lst {xs : List V} {ds : List PyData} : RA K B xs ds → Top K B (.lst xs) (.list ds)
  | dK {kvs : List (Key × V)} {vs : List PyData} : RA K B (kvs.map (·.2)) vs → Top K B (.dK kvs) (.dict ((kvs.map fun p => keyD p.1).zip vs))
  | dT {kvs : List (List Key × V)} {vs : List PyData} : RA K B (kvs.map (·.2)) vs → Top K B (.dT kvs) (.dict ((PyData.bool true, PyData.none) :: (kvs.map fun p => PyData.tuple (p.1.map keyD)).zip vs))
theorem Top.mono {K : PySem.W.Frag} {B B' : Hp} {o : HO} {d : PyData} (e : Ex B B') (t : Top K B o d) : Top K B' o d := by
  cases t with
  | lst r => exact .lst (r.mono e)
  | dK r => exact .dK (r.mono e)
  | dT r => exact .dT (r.mono e)
theorem Top.r {K : PySem.W.Frag} {B : Hp} {o : HO} {d : PyData} {p : Addr} (t : Top K B o d) (h : B p = some o) : R K B (.ref p) d := by
  cases t with
  | lst r => exact .lst h r
  | dK r => exact .dK h r
  | dT r => exact .dT h r

/-- v is the value sl: H the heap ahead -/
def Res (K : PySem.W.Frag) (H B' H' : Hp) (v : V) : Sl → Prop
  | .dat d => R K B' v d
  | .own d => ∃ p o, v = .ref p ∧ H p = none ∧ B' p = none ∧ H' p = some o ∧ Top K B' o d
/-- made fixed -/
theorem Res.fix {K : PySem.W.Frag} {B H B' H' : Hp} {v : V} {sl : Sl} (g : Gr B H B' H') (r : Res K H B' H' v sl) : ∃ B2, Gr B H B2 H' ∧ R K B2 v sl.d := by
  cases sl with
  | dat d => exact ⟨B', g, r⟩
  | own d =>
    obtain ⟨p, o, rfl, n, nb, e, t⟩ := r
    have x : Ex B' (upd B' p o) := .new nb
    refine ⟨upd B' p o, ⟨g.b.trans x, g.h, fun a u q => ?_, fun a u q m => ?_⟩, (t.mono x).r upd_same⟩
    · by_cases z : a = p
      · subst z
        rw [upd_same] at q
        rw [e]
        exact q
      · rw [upd_ne z] at q
        exact g.s a u q
    · rw [upd_ne (ne_of_none q n)]
      exact g.l a u q m
theorem Res.later {K : PySem.W.Frag} {H0 H B' H' : Hp} {v : V} {sl : Sl} (e : Ex H0 H) (r : Res K H B' H' v sl) : Res K H0 B' H' v sl := by
  cases sl with
  | dat d => exact r
  | own d =>
    obtain ⟨p, o, h1, h2, h3⟩ := r
    exact ⟨p, o, h1, e.back h2, h3⟩

/-! ### the slots -/
structure ER (K : PySem.W.Frag) (B0 H0 B H : Hp) (σ : L2.St) (ρ : Env) : Prop where
  gr : Gr B0 H0 B H
  len : σ.length = ρ.length
  dat : ∀ (i : Nat) d, ρ[i]? = some (some (.dat d)) → ∃ v, σ[i]? = some (some v) ∧ R K B v d
  own : ∀ (i : Nat) d, ρ[i]? = some (some (.own d)) → ∃ p o, σ[i]? = some (some (.ref p)) ∧ H0 p = none ∧ B p = none ∧ H p = some o ∧ Top K B o d
  sep : ∀ (i j : Nat) d e p, ρ[i]? = some (some (.own d)) → ρ[j]? = some (some (.own e)) → σ[i]? = some (some (.ref p)) → σ[j]? = some (some (.ref p)) → i = j
section
variable {K : PySem.W.Frag} {B0 H0 B H B' H' : Hp} {σ : L2.St} {ρ : Env}
theorem ER.grow (r : ER K B0 H0 B H σ ρ) (g : Gr B H B' H') : ER K B0 H0 B' H' σ ρ where
  gr := r.gr.trans g
  len := r.len
  dat := fun i d e => let ⟨v, h1, h2⟩ := r.dat i d e; ⟨v, h1, h2.mono g.b⟩
  own := fun i d e => let ⟨p, o, h1, h2, h3, h4, h5⟩ := r.own i d e; ⟨p, o, h1, h2, g.l p o h4 h3, g.h p o h4, h5.mono g.b⟩
  sep := r.sep
/-- a slot is stored -/
theorem ER.put {v : V} {sl : Sl} {i : Nat} (r : ER K B0 H0 B H σ ρ) (g : Gr B H B' H') (q : Res K H B' H' v sl) : ER K B0 H0 B' H' (σ.set i (some v)) (ρ.set i (some sl)) := by
  have r' := r.grow g
  refine ⟨r'.gr, by rw [List.length_set, List.length_set]; exact r.len, fun j d e => ?_, fun j d e => ?_, fun j k d e p h1 h2 h3 h4 => ?_⟩
  · by_cases z : i = j
    · subst z
      have hl : i < ρ.length := by
        have := (List.getElem?_eq_some_iff.mp e).1
        simpa using this
      rw [List.getElem?_set_self hl] at e
      cases e
      exact ⟨v, List.getElem?_set_self (by rw [r.len]; exact hl), q⟩
    · rw [List.getElem?_set_ne z] at e ⊢
      exact r'.dat j d e
  · by_cases z : i = j
    · subst z
      have hl : i < ρ.length := by
        have := (List.getElem?_eq_some_iff.mp e).1
        simpa using this
      rw [List.getElem?_set_self hl] at e
      cases e
      obtain ⟨p, o, rfl, n, nb, hp, t⟩ := q
      exact ⟨p, o, List.getElem?_set_self (by rw [r.len]; exact hl), r.gr.h.back n, nb, hp, t⟩
    · rw [List.getElem?_set_ne z] at e ⊢
      exact r'.own j d e
  · have key : ∀ (j : Nat) d, i ≠ j → (ρ.set i (some sl))[j]? = some (some (.own d)) → (σ.set i (some v))[j]? = some (some (.ref p)) → Res K H B' H' v sl → v = .ref p → sl.d = sl.d → (∃ e, sl = .own e) → False := by
      intro j d z e1 e2 q hv _ ⟨e, hs⟩
      subst hs
      obtain ⟨p', o, hv', n, _⟩ := q
      rw [hv] at hv'
      cases hv'
      rw [List.getElem?_set_ne z] at e1 e2
      obtain ⟨p2, o2, h1, _, _, h4, _⟩ := r.own j d e1
      rw [e2] at h1
      cases h1
      rw [n] at h4
      cases h4
    by_cases z1 : i = j
    · by_cases z2 : i = k
      · rw [← z1, ← z2]
      · exfalso
        subst z1
        have hl : i < ρ.length := by
          have := (List.getElem?_eq_some_iff.mp h1).1
          simpa using this
        rw [List.getElem?_set_self hl] at h1
        rw [List.getElem?_set_self (by rw [r.len]; exact hl)] at h3
        cases h1
        cases h3
        exact key k e z2 h2 h4 q rfl rfl ⟨_, rfl⟩
    · by_cases z2 : i = k
      · exfalso
        subst z2
        have hl : i < ρ.length := by
          have := (List.getElem?_eq_some_iff.mp h2).1
          simpa using this
        rw [List.getElem?_set_self hl] at h2
        rw [List.getElem?_set_self (by rw [r.len]; exact hl)] at h4
        cases h2
        cases h4
        exact key j d z1 h1 h3 q rfl rfl ⟨_, rfl⟩
      · rw [List.getElem?_set_ne z1] at h1 h3
        rw [List.getElem?_set_ne z2] at h2 h4
        exact r.sep j k d e p h1 h2 h3 h4
/-- a slot is forgotten -/
theorem ER.drop {i : Nat} {o : Option V} (r : ER K B0 H0 B H σ ρ) : ER K B0 H0 B H (σ.set i o) (ρ.set i none) := by
  refine ⟨r.gr, by rw [List.length_set, List.length_set]; exact r.len, fun j d e => ?_, fun j d e => ?_, fun j k d e p h1 h2 h3 h4 => ?_⟩
  · by_cases z : i = j
    · subst z
      have hl : i < ρ.length := by
        have := (List.getElem?_eq_some_iff.mp e).1
        simpa using this
      rw [List.getElem?_set_self hl] at e
      cases e
    · rw [List.getElem?_set_ne z] at e ⊢
      exact r.dat j d e
  · by_cases z : i = j
    · subst z
      have hl : i < ρ.length := by
        have := (List.getElem?_eq_some_iff.mp e).1
        simpa using this
      rw [List.getElem?_set_self hl] at e
      cases e
    · rw [List.getElem?_set_ne z] at e ⊢
      exact r.own j d e
  · have ne : ∀ (j : Nat) d, (ρ.set i none)[j]? = some (some (.own d)) → i ≠ j := by
      intro j d e z
      subst z
      have hl : i < ρ.length := by
        have := (List.getElem?_eq_some_iff.mp e).1
        simpa using this
      rw [List.getElem?_set_self hl] at e
      cases e
    have z1 := ne j d h1
    have z2 := ne k e h2
    rw [List.getElem?_set_ne z1] at h1 h3
    rw [List.getElem?_set_ne z2] at h2 h4
    exact r.sep j k d e p h1 h2 h3 h4
/-- an owned slot is fixed -/
def Env.fix (ρ : Env) (i : Nat) : Env := match ρ[i]? with
  | some (some (.own d)) => ρ.set i (some (.dat d))
  | _ => ρ
def Own (o : HO) : Prop := match o with
  | .lst _ => True
  | .dK _ => True
  | .dT _ => True
  | _ => False
theorem Top.ownO {o : HO} {d : PyData} (t : Top K B o d) : Own o := by cases t <;> trivial
theorem ER.fix {i : Nat} (r : ER K B0 H0 B H σ ρ) : ∃ B2, (∀ a o, B2 a = some o → B a = some o ∨ Own o) ∧ Ex B B2 ∧ ER K B0 H0 B2 H σ (ρ.fix i) := by
  unfold Env.fix
  split
  · rename_i d e
    obtain ⟨p, o, h1, h2, h3, h4, h5⟩ := r.own i d e
    have x : Ex B (upd B p o) := .new h3
    have g : Gr B0 H0 (upd B p o) H := by
      refine ⟨r.gr.b.trans x, r.gr.h, fun a u q => ?_, fun a u q n => ?_⟩
      · by_cases z : a = p
        · subst z
          rw [upd_same] at q
          rw [h4]
          exact q
        · rw [upd_ne z] at q
          exact r.gr.s a u q
      · rw [upd_ne (ne_of_none q h2)]
        exact r.gr.l a u q n
    have hl : i < ρ.length := (List.getElem?_eq_some_iff.mp e).1
    refine ⟨upd B p o, fun a u q => ?_, x, g, by rw [List.length_set]; exact r.len, fun j c q => ?_, fun j c q => ?_, fun j k c c' p' q1 q2 q3 q4 => ?_⟩
    · by_cases z : a = p
      · subst z
        rw [upd_same] at q
        cases q
        exact .inr h5.ownO
      · rw [upd_ne z] at q
        exact .inl q
    · by_cases z : i = j
      · subst z
        rw [List.getElem?_set_self hl] at q
        cases q
        exact ⟨_, h1, (h5.mono x).r upd_same⟩
      · rw [List.getElem?_set_ne z] at q
        obtain ⟨v, k1, k2⟩ := r.dat j c q
        exact ⟨v, k1, k2.mono x⟩
    · by_cases z : i = j
      · subst z
        rw [List.getElem?_set_self hl] at q
        cases q
      · rw [List.getElem?_set_ne z] at q
        obtain ⟨p2, o2, k1, k2, k3, k4, k5⟩ := r.own j c q
        have ne : p2 ≠ p := by
          intro zz
          subst zz
          exact z (r.sep i j d c p2 e q h1 k1)
        exact ⟨p2, o2, k1, k2, by rw [upd_ne ne]; exact k3, k4, k5.mono x⟩
    · have ne : ∀ (j : Nat) c, (ρ.set i (some (.dat d)))[j]? = some (some (.own c)) → i ≠ j := by
        intro j c q z
        subst z
        rw [List.getElem?_set_self hl] at q
        cases q
      have z1 := ne j c q1
      have z2 := ne k c' q2
      rw [List.getElem?_set_ne z1] at q1
      rw [List.getElem?_set_ne z2] at q2
      exact r.sep j k c c' p' q1 q2 q3 q4
  · exact ⟨B, fun a o h => .inl h, .refl _, r⟩
/-- all owned slots fixed -/
def pubS : Option Sl → Option Sl
  | some (.own d) => some (.dat d)
  | x => x
def Env.pub (ρ : Env) : Env := ρ.map pubS
end
end Dl
/-! The data layer: judgements. -/
namespace Dl
open PySem PySem.Spec PyProof.Rows L2

/-! ### what is wanted of a piece of code, by what it does with data -/
def EPost (K : PySem.W.Frag) (E : XK) (B H : Hp) (r : M Sl) (Q : VK) : Prop := match r with
  | .stuck => False
  | .exc x => ∀ H', Ex H H' → E (.ref (He.ga K x)) none H'
  | .ok sl => ∀ v B' H', Gr B H B' H' → Res K H B' H' v sl → Q v H'
def TPost (K : PySem.W.Frag) (E : XK) (B H : Hp) (r : M Bool) (Q : Bool → Hp → Prop) : Prop := match r with
  | .stuck => False
  | .exc x => ∀ H', Ex H H' → E (.ref (He.ga K x)) none H'
  | .ok b => ∀ B' H', Gr B H B' H' → Q b H'
def APost (K : PySem.W.Frag) (E : XK) (B H : Hp) (r : M (List PyData)) (Q : List V → Hp → Prop) : Prop := match r with
  | .stuck => False
  | .exc x => ∀ H', Ex H H' → E (.ref (He.ga K x)) none H'
  | .ok ds => ∀ vs B' H', Gr B H B' H' → RA K B' vs ds → Q vs H'
/-- an expression; a test; arguments -/
def DE (X : Cx) (E : XK) (e : Expr) (f : Env → M Sl) : Prop := ∃ t, PE X e t ∧ ∀ B0 H0 B H σ ρ Q, ER X.K B0 H0 B H σ ρ → EPost X.K E B H (f ρ) Q → t σ H Q
def DT (X : Cx) (E : XK) (e : Expr) (f : Env → M Bool) : Prop := ∃ t, PT X e t ∧ ∀ B0 H0 B H σ ρ Q, ER X.K B0 H0 B H σ ρ → TPost X.K E B H (f ρ) Q → t σ H Q
def DW (X : Cx) (E : XK) (e : Expr) (f : Env → M Bool) : Prop := ∃ t, PW X e t ∧ ∀ B0 H0 B H σ ρ Q, ER X.K B0 H0 B H σ ρ → TPost X.K E B H (f ρ) Q → t σ H Q
def DA (X : Cx) (E : XK) (es : List Expr) (f : Env → M (List PyData)) : Prop := ∃ t, PA X es t ∧ ∀ B0 H0 B H σ ρ Q, ER X.K B0 H0 B H σ ρ → APost X.K E B H (f ρ) Q → t σ H Q

section
variable {X : Cx} {E : XK} {K : PySem.W.Frag} {B H B' H' : Hp}
theorem EPost.grow {r : M Sl} {Q : VK} (g : Gr B H B' H') (h : EPost K E B H r Q) : EPost K E B' H' r Q := by
  cases r with
  | stuck => exact h
  | exc x => exact fun H2 e => h H2 (g.h.trans e)
  | ok sl => exact fun v B2 H2 g2 q => h v B2 H2 (g.trans g2) (q.later g.h)
theorem TPost.grow {r : M Bool} {Q : Bool → Hp → Prop} (g : Gr B H B' H') (h : TPost K E B H r Q) : TPost K E B' H' r Q := by
  cases r with
  | stuck => exact h
  | exc x => exact fun H2 e => h H2 (g.h.trans e)
  | ok sl => exact fun B2 H2 g2 => h B2 H2 (g.trans g2)
theorem APost.grow {r : M (List PyData)} {Q : List V → Hp → Prop} (g : Gr B H B' H') (h : APost K E B H r Q) : APost K E B' H' r Q := by
  cases r with
  | stuck => exact h
  | exc x => exact fun H2 e => h H2 (g.h.trans e)
  | ok sl => exact fun v B2 H2 g2 q => h v B2 H2 (g.trans g2) q
/-- a value that needs no object, given at once -/
theorem EPost.val {v : V} {d : PyData} {Q : VK} (e : Ex B H) (r : R K B v d) (h : EPost K E B H (.ok (.dat d)) Q) : Q v H := h v B H (.refl e) r
/-- a new fixed object -/
theorem EPost.new {p : Addr} {o : HO} {d : PyData} {Q : VK} (e : Ex B H) (n : H p = none) (r : R K (upd B p o) (.ref p) d) (h : EPost K E B H (.ok (.dat d)) Q) : Q (.ref p) (upd H p o) := h _ _ _ (.new e n) r
/-- a new object of one's own -/
theorem EPost.own {p : Addr} {o : HO} {d : PyData} {Q : VK} (e : Ex B H) (n : H p = none) (r : Top K B o d) (h : EPost K E B H (.ok (.own d)) Q) : Q (.ref p) (upd H p o) :=
  h _ _ _ (.own e n) ⟨p, o, rfl, n, e.back n, upd_same, r⟩
theorem EPost.bind {α : Type} {r : M α} {g : α → M Sl} {Q : VK} (h : EPost K E B H (r.bind g) Q) : (∃ a, r = .ok a ∧ EPost K E B H (g a) Q) ∨ ∃ x, r = .exc x ∧ ∀ H', Ex H H' → E (.ref (He.ga K x)) none H' := by
  cases r with
  | stuck => exact h.elim
  | exc x => exact .inr ⟨x, rfl, h⟩
  | ok a => exact .inl ⟨a, rfl, h⟩
theorem TPost.bind {α : Type} {r : M α} {g : α → M Bool} {Q : Bool → Hp → Prop} (h : TPost K E B H (r.bind g) Q) : (∃ a, r = .ok a ∧ TPost K E B H (g a) Q) ∨ ∃ x, r = .exc x ∧ ∀ H', Ex H H' → E (.ref (He.ga K x)) none H' := by
  cases r with
  | stuck => exact h.elim
  | exc x => exact .inr ⟨x, rfl, h⟩
  | ok a => exact .inl ⟨a, rfl, h⟩
theorem APost.bind {α : Type} {r : M α} {g : α → M (List PyData)} {Q : List V → Hp → Prop} (h : APost K E B H (r.bind g) Q) : (∃ a, r = .ok a ∧ APost K E B H (g a) Q) ∨ ∃ x, r = .exc x ∧ ∀ H', Ex H H' → E (.ref (He.ga K x)) none H' := by
  cases r with
  | stuck => exact h.elim
  | exc x => exact .inr ⟨x, rfl, h⟩
  | ok a => exact .inl ⟨a, rfl, h⟩
end

/-- an expression's run, seen from what comes behind it: the value fixed -/
theorem run_e {X : Cx} {E : XK} {f : Env → M Sl} {t : TE} (h : ∀ B0 H0 B H σ ρ Q, ER X.K B0 H0 B H σ ρ → EPost X.K E B H (f ρ) Q → t σ H Q)
    {B0 H0 B H : Hp} {σ : L2.St} {ρ : Env} {Q : VK} (r : ER X.K B0 H0 B H σ ρ) (hf : (∃ sl, f ρ = .ok sl ∧ ∀ v B' H', Gr B H B' H' → R X.K B' v sl.d → Q v H') ∨ ∃ x, f ρ = .exc x ∧ ∀ H', Ex H H' → E (.ref (He.ga X.K x)) none H') : t σ H Q := by
  rcases hf with ⟨sl, e1, k⟩ | ⟨x, e1, k⟩
  · refine h B0 H0 B H σ ρ Q r ?_
    rw [e1]
    intro v B' H' g q
    obtain ⟨B2, g2, r2⟩ := q.fix g
    exact k v B2 H' g2 r2
  · refine h B0 H0 B H σ ρ Q r ?_
    rw [e1]
    exact k

section
variable {X : Cx} {E : XK} {a b c e o : Expr} {es : List Expr} {fa fb fc : Env → M Sl} {pos : Pos}
/-! ### names, constants -/
def eVar (i : Nat) : Env → M Sl := fun ρ => match ρ[i]? with
  | some (some (.dat d)) => .ok (.dat d)
  | _ => .stuck
def eC (d : PyData) : Env → M Sl := fun _ => .ok (.dat d)
theorem de_var (i : Nat) (h : PE X e (tVar i)) : DE X E e (eVar i) := by
  refine ⟨_, h, fun B0 H0 B H σ ρ Q r q => ?_⟩
  unfold eVar at q
  split at q
  · rename_i d hd
    obtain ⟨v, h1, h2⟩ := r.dat i d hd
    exact ⟨v, h1, q v B H (.refl r.gr.s) h2⟩
  · exact q.elim
theorem de_c {v : V} {d : PyData} (h : PE X e (tC v)) (r : ∀ K H, R K H v d) : DE X E e (eC d) :=
  ⟨_, h, fun B0 H0 B H σ ρ Q r' q => q v B H (.refl r'.gr.s) (r _ _)⟩
theorem de_int {i : Int} {j} : DE X E (.Constant (.int i) j pos) (eC (.int i)) := de_c pe_int fun _ _ => .int i
theorem de_bl {i : Bool} {j} : DE X E (.Constant (.bool i) j pos) (eC (.bool i)) := de_c pe_bl fun _ _ => .bl i
theorem de_non {j} : DE X E (.Constant .none j pos) (eC .none) := de_c pe_non fun _ _ => .non
theorem de_str {x : Str} {j} : DE X E (.Constant (.str x) j pos) (eC (.str x)) := de_c pe_str fun _ _ => .str x

/-! ### operators by values -/
def OpD (X : Cx) (E : XK) (r : R2) (g : PyData → PyData → M Sl) : Prop := ∀ x y d e B H Q, Ex B H → R X.K B x d → R X.K B y e → EPost X.K E B H (g d e) Q → r x y H Q
def UnD (X : Cx) (E : XK) (r : V → Hp → VK → Prop) (g : PyData → M Sl) : Prop := ∀ x d B H Q, Ex B H → R X.K B x d → EPost X.K E B H (g d) Q → r x H Q
def CallD (X : Cx) (E : XK) (r : List V → Hp → VK → Prop) (g : List PyData → M Sl) : Prop := ∀ xs ds B H Q, Ex B H → RA X.K B xs ds → EPost X.K E B H (g ds) Q → r xs H Q
def eOp (g : PyData → PyData → M Sl) (fa fb : Env → M Sl) : Env → M Sl := fun ρ => (fa ρ).bind fun x => (fb ρ).bind fun y => g x.d y.d
def eUn (g : PyData → M Sl) (fa : Env → M Sl) : Env → M Sl := fun ρ => (fa ρ).bind fun x => g x.d
theorem run_op {r : R2} {g : PyData → PyData → M Sl} {ta tb : TE} (hg : OpD X E r g)
    (ha : ∀ B0 H0 B H σ ρ Q, ER X.K B0 H0 B H σ ρ → EPost X.K E B H (fa ρ) Q → ta σ H Q) (hb : ∀ B0 H0 B H σ ρ Q, ER X.K B0 H0 B H σ ρ → EPost X.K E B H (fb ρ) Q → tb σ H Q) :
    ∀ B0 H0 B H σ ρ Q, ER X.K B0 H0 B H σ ρ → EPost X.K E B H (eOp g fa fb ρ) Q → tOp r ta tb σ H Q := by
  intro B0 H0 B H σ ρ Q re q
  refine run_e ha re ?_
  rcases q.bind with ⟨x, e1, q⟩ | ⟨x, e1, q⟩
  · refine .inl ⟨x, e1, fun v B1 H1 g1 r1 => ?_⟩
    have q := q.grow g1
    refine run_e hb (re.grow g1) ?_
    rcases q.bind with ⟨y, e2, q⟩ | ⟨y, e2, q⟩
    · exact .inl ⟨y, e2, fun u B2 H2 g2 r2 => hg v u x.d y.d B2 H2 Q g2.s (r1.mono g2.b) r2 (q.grow g2)⟩
    · exact .inr ⟨y, e2, q⟩
  · exact .inr ⟨x, e1, q⟩
theorem de_op {op : Operator} {r : R2} {g : PyData → PyData → M Sl} (ho : OpR X (binaryOp op) r) (hg : OpD X E r g) (ha : DE X E a fa) (hb : DE X E b fb) : DE X E (.BinOp a op b pos) (eOp g fa fb) := by
  obtain ⟨ta, pa, ha⟩ := ha
  obtain ⟨tb, pb, hb⟩ := hb
  exact ⟨_, pe_op ho pa pb, run_op hg ha hb⟩
theorem de_un {op : UnaryOp} {r : V → Hp → VK → Prop} {g : PyData → M Sl} (ho : UnR X (unaryOp op) r) (hg : UnD X E r g) (ha : DE X E a fa) : DE X E (.UnaryOp op a pos) (eUn g fa) := by
  obtain ⟨ta, pa, ha⟩ := ha
  refine ⟨_, pe_un ho pa, fun B0 H0 B H σ ρ Q re q => ?_⟩
  refine run_e ha re ?_
  rcases q.bind with ⟨x, e1, q⟩ | ⟨x, e1, q⟩
  · exact .inl ⟨x, e1, fun v B1 H1 g1 r1 => hg v x.d B1 H1 Q g1.s r1 (q.grow g1)⟩
  · exact .inr ⟨x, e1, q⟩
theorem de_cmp {op : CmpOp} {r : R2} {g : PyData → PyData → M Sl} (ho : OpR X (compareOp op) r) (hg : OpD X E r g) (ha : DE X E a fa) (hb : DE X E b fb) (hm : behindInMarks op b = false) : DE X E (.Compare a [op] [b] pos) (eOp g fa fb) := by
  obtain ⟨ta, pa, ha⟩ := ha
  obtain ⟨tb, pb, hb⟩ := hb
  exact ⟨_, pe_cmpR ho pa pb hm, run_op hg ha hb⟩
/-- a bool among data -/
def isB : PyData → M Bool
  | .bool b => .ok b
  | _ => .stuck
def tOf (f : Env → M Sl) : Env → M Bool := fun ρ => (f ρ).bind fun x => isB x.d
theorem isB_ok {d : PyData} {b : Bool} {K : PySem.W.Frag} {B : Hp} {v : V} (h : isB d = .ok b) (r : R K B v d) : v = .bl b := by
  cases r <;> simp [isB] at h
  subst h
  rfl
theorem tpost_isB {K : PySem.W.Frag} {B H : Hp} {d : PyData} {Q : Bool → Hp → Prop} {v : V} (r : R K B v d) (e : Ex B H) (h : TPost K E B H (isB d) Q) : ∃ b, v = .bl b ∧ Q b H := by
  cases q : isB d with
  | stuck =>
    rw [q] at h
    exact h.elim
  | exc x => cases d <;> simp [isB] at q
  | ok b =>
    rw [q] at h
    exact ⟨b, isB_ok q r, h B H (.refl e)⟩
theorem dt_cmp {op : CmpOp} {r : R2} {g : PyData → PyData → M Sl} (ho : OpR X (compareOp op) r) (hg : OpD X E r g) (ha : DE X E a fa) (hb : DE X E b fb) (hm : behindInMarks op b = false) : DT X E (.Compare a [op] [b] pos) (tOf (eOp g fa fb)) := by
  obtain ⟨ta, pa, ha⟩ := ha
  obtain ⟨tb, pb, hb⟩ := hb
  refine ⟨_, pt_cmpR ho pa pb hm, fun B0 H0 B H σ ρ Q re q => ?_⟩
  refine run_e (run_op hg ha hb) re ?_
  rcases q.bind with ⟨x, e1, q⟩ | ⟨x, e1, q⟩
  · exact .inl ⟨x, e1, fun v B1 H1 g1 r1 => tpost_isB r1 g1.s (q.grow g1)⟩
  · exact .inr ⟨x, e1, q⟩
theorem dt_val (ha : DE X E a fa) (he : ∀ whole, isTrue a X.env whole = (do let v ← whole; standAt a.pos; holding [v] (truthy v)) := by intro _; rfl) : DT X E a (tOf fa) := by
  obtain ⟨ta, pa, ha⟩ := ha
  refine ⟨_, pt_val pa he, fun B0 H0 B H σ ρ Q re q => ?_⟩
  refine run_e ha re ?_
  rcases q.bind with ⟨x, e1, q⟩ | ⟨x, e1, q⟩
  · exact .inl ⟨x, e1, fun v B1 H1 g1 r1 => tpost_isB r1 g1.s (q.grow g1)⟩
  · exact .inr ⟨x, e1, q⟩

/-! ### tests put together -/
theorem run_t {f : Env → M Bool} {t : TT} (h : ∀ B0 H0 B H σ ρ Q, ER X.K B0 H0 B H σ ρ → TPost X.K E B H (f ρ) Q → t σ H Q)
    {B0 H0 B H : Hp} {σ : L2.St} {ρ : Env} {Q : Bool → Hp → Prop} (r : ER X.K B0 H0 B H σ ρ) (hf : (∃ b, f ρ = .ok b ∧ ∀ B' H', Gr B H B' H' → Q b H') ∨ ∃ x, f ρ = .exc x ∧ ∀ H', Ex H H' → E (.ref (He.ga X.K x)) none H') : t σ H Q := by
  rcases hf with ⟨b, e1, k⟩ | ⟨x, e1, k⟩
  · refine h B0 H0 B H σ ρ Q r ?_
    rw [e1]
    exact k
  · refine h B0 H0 B H σ ρ Q r ?_
    rw [e1]
    exact k
def tAndF (f g : Env → M Bool) : Env → M Bool := fun ρ => (f ρ).bind fun b => if b = true then g ρ else .ok false
def tOrF (f g : Env → M Bool) : Env → M Bool := fun ρ => (f ρ).bind fun b => if b = true then .ok true else g ρ
def tNotF (f : Env → M Bool) : Env → M Bool := fun ρ => (f ρ).bind fun b => .ok (!b)
section
variable {f g : Env → M Bool} {rest : List Expr}
theorem dt_not (h : DT X E a f) : DT X E (.UnaryOp .Not a pos) (tNotF f) := by
  obtain ⟨t, p, h⟩ := h
  refine ⟨_, pt_not p, fun B0 H0 B H σ ρ Q re q => ?_⟩
  refine run_t h re ?_
  rcases q.bind with ⟨x, e1, q⟩ | ⟨x, e1, q⟩
  · exact .inl ⟨x, e1, fun B1 H1 g1 => q B1 H1 g1⟩
  · exact .inr ⟨x, e1, q⟩
theorem dw_and1 (h : DT X E a f) : DW X E (.BoolOp .And [a] pos) f := let ⟨_, p, h⟩ := h; ⟨_, pw_and1 p, h⟩
theorem dw_or1 (h : DT X E a f) : DW X E (.BoolOp .Or [a] pos) f := let ⟨_, p, h⟩ := h; ⟨_, pw_or1 p, h⟩
theorem dw_and (h : DT X E a f) (k : DW X E (.BoolOp .And (b :: rest) pos) g) : DW X E (.BoolOp .And (a :: b :: rest) pos) (tAndF f g) := by
  obtain ⟨t, p, h⟩ := h
  obtain ⟨u, pu, k⟩ := k
  refine ⟨_, pw_and p pu, fun B0 H0 B H σ ρ Q re q => ?_⟩
  refine run_t h re ?_
  rcases q.bind with ⟨x, e1, q⟩ | ⟨x, e1, q⟩
  · refine .inl ⟨x, e1, fun B1 H1 g1 => ?_⟩
    cases x with
    | true => exact k B0 H0 B1 H1 σ ρ Q (re.grow g1) (TPost.grow g1 q)
    | false => exact q B1 H1 g1
  · exact .inr ⟨x, e1, q⟩
theorem dw_or (h : DT X E a f) (k : DW X E (.BoolOp .Or (b :: rest) pos) g) : DW X E (.BoolOp .Or (a :: b :: rest) pos) (tOrF f g) := by
  obtain ⟨t, p, h⟩ := h
  obtain ⟨u, pu, k⟩ := k
  refine ⟨_, pw_or p pu, fun B0 H0 B H σ ρ Q re q => ?_⟩
  refine run_t h re ?_
  rcases q.bind with ⟨x, e1, q⟩ | ⟨x, e1, q⟩
  · refine .inl ⟨x, e1, fun B1 H1 g1 => ?_⟩
    cases x with
    | true => exact q B1 H1 g1
    | false => exact k B0 H0 B1 H1 σ ρ Q (re.grow g1) (TPost.grow g1 q)
  · exact .inr ⟨x, e1, q⟩
theorem DW.dt (h : DW X E a f) : DT X E a f := let ⟨_, p, h⟩ := h; ⟨_, p.pt, h⟩
end
/-- the same as values -/
def eBl (f : Env → M Bool) : Env → M Sl := fun ρ => (f ρ).bind fun b => .ok (.dat (.bool b))
def eAndV (fa fb : Env → M Sl) : Env → M Sl := fun ρ => (tOf fa ρ).bind fun b => if b = true then fb ρ else .ok (.dat (.bool false))
def eOrV (fa fb : Env → M Sl) : Env → M Sl := fun ρ => (tOf fa ρ).bind fun b => if b = true then .ok (.dat (.bool true)) else fb ρ
def eNotV (fa : Env → M Sl) : Env → M Sl := fun ρ => (tOf fa ρ).bind fun b => .ok (.dat (.bool (!b)))
theorem epost_tOf {K : PySem.W.Frag} {B H : Hp} {r : M Sl} {g : Bool → M Sl} {Q : VK} (h : EPost K E B H ((r.bind fun x => isB x.d).bind g) Q) :
    (∃ sl, r = .ok sl ∧ ∀ v B' H', Gr B H B' H' → R K B' v sl.d → ∃ b, v = .bl b ∧ EPost K E B' H' (g b) Q) ∨ ∃ x, r = .exc x ∧ ∀ H', Ex H H' → E (.ref (He.ga K x)) none H' := by
  cases r with
  | stuck => exact h.elim
  | exc x => exact .inr ⟨x, rfl, h⟩
  | ok sl =>
    refine .inl ⟨sl, rfl, fun v B' H' g1 r1 => ?_⟩
    rw [bind_ok] at h
    cases q : isB sl.d with
    | stuck =>
      rw [q] at h
      exact h.elim
    | exc x =>
      exfalso
      cases z : sl.d <;> rw [z] at q <;> simp [isB] at q
    | ok b =>
      rw [q, bind_ok] at h
      exact ⟨b, isB_ok q r1, h.grow g1⟩
theorem de_not (ha : DE X E a fa) : DE X E (.UnaryOp .Not a pos) (eNotV fa) := by
  obtain ⟨ta, pa, ha⟩ := ha
  refine ⟨_, pe_not pa, fun B0 H0 B H σ ρ Q re q => ?_⟩
  refine run_e ha re ?_
  rcases epost_tOf q with ⟨x, e1, q⟩ | ⟨x, e1, q⟩
  · refine .inl ⟨x, e1, fun v B1 H1 g1 r1 => ?_⟩
    obtain ⟨b, rfl, q⟩ := q v B1 H1 g1 r1
    exact ⟨b, rfl, q.val g1.s (.bl _)⟩
  · exact .inr ⟨x, e1, q⟩
theorem de_one {op} (ha : DE X E a fa) : DE X E (.BoolOp op [a] pos) fa := let ⟨_, p, h⟩ := ha; ⟨_, pe_one p, h⟩
theorem de_and {rest : List Expr} (ha : DE X E a fa) (hb : DE X E (.BoolOp .And (b :: rest) pos) fb) : DE X E (.BoolOp .And (a :: b :: rest) pos) (eAndV fa fb) := by
  obtain ⟨ta, pa, ha⟩ := ha
  obtain ⟨tb, pb, hb⟩ := hb
  refine ⟨_, pe_and pa pb, fun B0 H0 B H σ ρ Q re q => ?_⟩
  refine run_e ha re ?_
  rcases epost_tOf q with ⟨x, e1, q⟩ | ⟨x, e1, q⟩
  · refine .inl ⟨x, e1, fun v B1 H1 g1 r1 => ?_⟩
    obtain ⟨b, rfl, q⟩ := q v B1 H1 g1 r1
    refine ⟨b, rfl, ?_⟩
    cases b with
    | true => exact hb B0 H0 B1 H1 σ ρ Q (re.grow g1) q
    | false => exact q.val g1.s (.bl _)
  · exact .inr ⟨x, e1, q⟩
theorem de_or {rest : List Expr} (ha : DE X E a fa) (hb : DE X E (.BoolOp .Or (b :: rest) pos) fb) : DE X E (.BoolOp .Or (a :: b :: rest) pos) (eOrV fa fb) := by
  obtain ⟨ta, pa, ha⟩ := ha
  obtain ⟨tb, pb, hb⟩ := hb
  refine ⟨_, pe_or pa pb, fun B0 H0 B H σ ρ Q re q => ?_⟩
  refine run_e ha re ?_
  rcases epost_tOf q with ⟨x, e1, q⟩ | ⟨x, e1, q⟩
  · refine .inl ⟨x, e1, fun v B1 H1 g1 r1 => ?_⟩
    obtain ⟨b, rfl, q⟩ := q v B1 H1 g1 r1
    refine ⟨b, rfl, ?_⟩
    cases b with
    | true => exact q.val g1.s (.bl _)
    | false => exact hb B0 H0 B1 H1 σ ρ Q (re.grow g1) q
  · exact .inr ⟨x, e1, q⟩
def eIf (f : Env → M Bool) (fa fb : Env → M Sl) : Env → M Sl := fun ρ => (f ρ).bind fun b => if b = true then fa ρ else fb ρ
theorem de_if {f : Env → M Bool} (h : DT X E c f) (ha : DE X E a fa) (hb : DE X E b fb) : DE X E (.IfExp c a b pos) (eIf f fa fb) := by
  obtain ⟨t, p, h⟩ := h
  obtain ⟨ta, pa, ha⟩ := ha
  obtain ⟨tb, pb, hb⟩ := hb
  refine ⟨_, pe_ifExp p pa pb, fun B0 H0 B H σ ρ Q re q => ?_⟩
  refine run_t h re ?_
  rcases q.bind with ⟨x, e1, q⟩ | ⟨x, e1, q⟩
  · refine .inl ⟨x, e1, fun B1 H1 g1 => ?_⟩
    cases x with
    | true => exact ha B0 H0 B1 H1 σ ρ Q (re.grow g1) (EPost.grow g1 q)
    | false => exact hb B0 H0 B1 H1 σ ρ Q (re.grow g1) (EPost.grow g1 q)
  · exact .inr ⟨x, e1, q⟩

/-! ### arguments, displays -/
def aNil : Env → M (List PyData) := fun _ => .ok []
def aCons (f : Env → M Sl) (g : Env → M (List PyData)) : Env → M (List PyData) := fun ρ => (f ρ).bind fun x => (g ρ).bind fun ds => .ok (x.d :: ds)
theorem da_nil : DA X E [] aNil := ⟨_, pa_nil, fun B0 H0 B H σ ρ Q re q => q [] B H (.refl re.gr.s) .nil⟩
theorem da_cons {f : Env → M Sl} {g : Env → M (List PyData)} (h : DE X E e f) (k : DA X E es g) (hs : starEach (e :: es) X.env = (false, eval e X.env) :: starEach es X.env := by rfl) : DA X E (e :: es) (aCons f g) := by
  obtain ⟨t, p, h⟩ := h
  obtain ⟨u, pu, k⟩ := k
  refine ⟨_, pa_cons p pu hs, fun B0 H0 B H σ ρ Q re q => ?_⟩
  refine run_e h re ?_
  rcases q.bind with ⟨x, e1, q⟩ | ⟨x, e1, q⟩
  · refine .inl ⟨x, e1, fun v B1 H1 g1 r1 => ?_⟩
    refine k B0 H0 B1 H1 σ ρ _ (re.grow g1) ?_
    have q := APost.grow g1 q
    cases z : g ρ with
    | stuck =>
      rw [z] at q
      exact q.elim
    | exc x =>
      rw [z] at q
      exact q
    | ok ds =>
      rw [z] at q
      exact fun vs B2 H2 g2 r2 => q (v :: vs) B2 H2 g2 (.cons (r1.mono g2.b) r2)
  · exact .inr ⟨x, e1, q⟩
def big (n : Nat) : Bool := decide (n ≤ 16777216)
theorem big_ok {n : Nat} (h : big n = true) : n ≤ sizeLine := by
  have := of_decide_eq_true h
  rw [sizeLine_eq]
  exact this
def eTup (f : Env → M (List PyData)) : Env → M Sl := fun ρ => (f ρ).bind fun ds => if big ds.length = true then .ok (.dat (.tuple ds)) else .stuck
def eLst (f : Env → M (List PyData)) : Env → M Sl := fun ρ => (f ρ).bind fun ds => if big ds.length = true then .ok (.own (.list ds)) else .stuck
theorem run_a {f : Env → M (List PyData)} {t : TA} (h : ∀ B0 H0 B H σ ρ Q, ER X.K B0 H0 B H σ ρ → APost X.K E B H (f ρ) Q → t σ H Q)
    {B0 H0 B H : Hp} {σ : L2.St} {ρ : Env} {Q : List V → Hp → Prop} (r : ER X.K B0 H0 B H σ ρ) (hf : (∃ ds, f ρ = .ok ds ∧ ∀ vs B' H', Gr B H B' H' → RA X.K B' vs ds → Q vs H') ∨ ∃ x, f ρ = .exc x ∧ ∀ H', Ex H H' → E (.ref (He.ga X.K x)) none H') : t σ H Q := by
  rcases hf with ⟨b, e1, k⟩ | ⟨x, e1, k⟩
  · refine h B0 H0 B H σ ρ Q r ?_
    rw [e1]
    exact k
  · refine h B0 H0 B H σ ρ Q r ?_
    rw [e1]
    exact k
theorem de_tup {k : Nat} {f : Env → M (List PyData)} (h : DA X E es f) : DE X E (.Tuple es k pos) (eTup f) := by
  obtain ⟨t, p, h⟩ := h
  refine ⟨_, pe_tup p, fun B0 H0 B H σ ρ Q re q => ?_⟩
  refine run_a h re ?_
  rcases q.bind with ⟨ds, e1, q⟩ | ⟨x, e1, q⟩
  · refine .inl ⟨ds, e1, fun vs B1 H1 g1 r1 => ?_⟩
    have q := EPost.grow g1 q
    split at q
    · rename_i hb
      exact ⟨by rw [r1.length]; exact big_ok hb, fun p hp => q.new g1.s hp (.tup upd_same (r1.mono (.new (g1.s.back hp))))⟩
    · exact q.elim
  · exact .inr ⟨x, e1, q⟩
theorem de_lst {f : Env → M (List PyData)} (h : DA X E es f) : DE X E (.List es pos) (eLst f) := by
  obtain ⟨t, p, h⟩ := h
  refine ⟨_, pe_lst p, fun B0 H0 B H σ ρ Q re q => ?_⟩
  refine run_a h re ?_
  rcases q.bind with ⟨ds, e1, q⟩ | ⟨x, e1, q⟩
  · refine .inl ⟨ds, e1, fun vs B1 H1 g1 r1 => ?_⟩
    have q := EPost.grow g1 q
    split at q
    · rename_i hb
      exact ⟨by rw [r1.length]; exact big_ok hb, fun p hp => q.own g1.s hp (.lst r1)⟩
    · exact q.elim
  · exact .inr ⟨x, e1, q⟩

/-! ### calls -/
def eCall (g : List PyData → M Sl) (f : Env → M (List PyData)) : Env → M Sl := fun ρ => (f ρ).bind g
theorem run_call {r : List V → Hp → VK → Prop} {g : List PyData → M Sl} {f : Env → M (List PyData)} {t : TA} (hg : CallD X E r g)
    (h : ∀ B0 H0 B H σ ρ Q, ER X.K B0 H0 B H σ ρ → APost X.K E B H (f ρ) Q → t σ H Q) : ∀ B0 H0 B H σ ρ Q, ER X.K B0 H0 B H σ ρ → EPost X.K E B H (eCall g f ρ) Q → t σ H fun vs H1 => r vs H1 Q := by
  intro B0 H0 B H σ ρ Q re q
  refine run_a h re ?_
  rcases q.bind with ⟨ds, e1, q⟩ | ⟨x, e1, q⟩
  · exact .inl ⟨ds, e1, fun vs B1 H1 g1 r1 => hg vs ds B1 H1 Q g1.s r1 (q.grow g1)⟩
  · exact .inr ⟨x, e1, q⟩
theorem de_callB {x : Str} {p : Pos} {id : String} {r : List V → Hp → VK → Prop} {g : List PyData → M Sl} {f : Env → M (List PyData)} (hc : CallR X (.builtin id) r) (hg : CallD X E r g) (gl : Gl X x) (hm : X.mg x = none) (hv : bootBuiltins x = some (.builtin id)) (h : DA X E (e :: es) f)
    (hn : x ≠ "__name__" := by decide) (hdb : (x == ("__debug__" : Str)) = false := by decide) (he : starEach (e :: es) X.env = (false, eval e X.env) :: starEach es X.env := by rfl) (hpl : (backTo pos (starEach es X.env)).any (·.1) = false := by rfl) :
    DE X E (.Call (.Name x p) (e :: es) [] pos) (eCall g f) := by
  obtain ⟨t, pt, h⟩ := h
  exact ⟨_, pe_callB hc gl hm hv pt hn hdb he hpl, run_call hg h⟩
theorem de_callTy {x : Str} {p : Pos} {T : String} {r : List V → Hp → VK → Prop} {g : List PyData → M Sl} {f : Env → M (List PyData)} (hc : CallR X (.type T) r) (hg : CallD X E r g) (gl : Gl X x) (hm : X.mg x = none) (hv : bootBuiltins x = some (.type T)) (h : DA X E (e :: es) f)
    (hn : x ≠ "__name__" := by decide) (hdb : (x == ("__debug__" : Str)) = false := by decide) (he : starEach (e :: es) X.env = (false, eval e X.env) :: starEach es X.env := by rfl) (hpl : (backTo pos (starEach es X.env)).any (·.1) = false := by rfl) :
    DE X E (.Call (.Name x p) (e :: es) [] pos) (eCall g f) := by
  obtain ⟨t, pt, h⟩ := h
  exact ⟨_, pe_callTy hc gl hm hv pt hn hdb he hpl, run_call hg h⟩
/-- a def's promise, by data -/
def spD (K : PySem.W.Frag) (n : Nat) (g : List PyData → M Sl) : Sp := fun vs H Q E => vs.length = n ∧ ∃ ds B, Ex B H ∧ RA K B vs ds ∧ EPost K E B H (g ds) Q
theorem de_call {x : Str} {p : Pos} {k : Nat} {fa : Addr} {fd : FuncData} {ps : List Str} {n : Nat} {g : List PyData → M Sl} {f : Env → M (List PyData)} (F : FnOk X.prog X.w X.K X.mg X.base (L2.CX X.prog X.w) k fa fd ps (spD X.K n g)) (hr : Room k X.A) (hg : Gl X x) (hm : X.mg x = some (.ref fa))
    (hk : PySem.W.keepIn X.K (.ref fa) = true) (hb : Binds X.K fd ps []) (hx : Passes (L2.CX X.prog X.w) X E) (h : DA X E (e :: es) f) (hn : (e :: es).length = n := by rfl)
    (hdb : (x == ("__debug__" : Str)) = false := by decide) (he : starEach (e :: es) X.env = (false, eval e X.env) :: starEach es X.env := by rfl) (hpl : (backTo pos (starEach es X.env)).any (·.1) = false := by rfl)
    (hl : ∀ ρ ds, f ρ = .ok ds → ds.length = n) :
    DE X E (.Call (.Name x p) (e :: es) [] pos) (eCall g f) := by
  obtain ⟨t, pt, h⟩ := h
  refine ⟨_, pe_call F hr hg hm hk hb .nil hx pt hdb he hpl, fun B0 H0 B H σ ρ Q re q => ?_⟩
  refine run_a h re ?_
  rcases q.bind with ⟨ds, e1, q⟩ | ⟨x, e1, q⟩
  · refine .inl ⟨ds, e1, fun vs B1 H1 g1 r1 => ?_⟩
    rw [List.append_nil]
    exact ⟨by rw [r1.length]; exact hl ρ ds e1, ds, B1, g1.s, r1, q.grow g1⟩
  · exact .inr ⟨x, e1, q⟩
theorem aCons_len {f : Env → M Sl} {g : Env → M (List PyData)} {n : Nat} (h : ∀ ρ ds, g ρ = .ok ds → ds.length = n) : ∀ ρ ds, aCons f g ρ = .ok ds → ds.length = n + 1 := by
  intro ρ ds e
  unfold aCons at e
  cases q : f ρ with
  | stuck => rw [q] at e; cases e
  | exc x => rw [q] at e; cases e
  | ok a =>
    rw [q, bind_ok] at e
    cases q2 : g ρ with
    | stuck => rw [q2] at e; cases e
    | exc x => rw [q2] at e; cases e
    | ok l =>
      rw [q2, bind_ok] at e
      cases e
      rw [List.length_cons, h ρ l q2]
theorem aNil_len : ∀ ρ ds, aNil ρ = .ok ds → ds.length = 0 := by
  intro ρ ds e
  cases e
  rfl
end
end Dl
/-! The data layer: statements, loops, comprehensions, defs. -/
namespace Dl
open PySem PySem.Spec PyProof.Rows L2

/-- what a statement does -/
inductive O where
  | stuck
  | exc (x : Str)
  | nx (ρ : Env)
  | rt (sl : Sl)
  | bk (ρ : Env)
  | ct (ρ : Env)
def SPost (K : PySem.W.Frag) (E : XK) (B0 H0 B : Hp) (D : Ends) (o : O) : Prop := match o with
  | .stuck => False
  | .exc x => ∀ H', Ex H0 H' → E (.ref (He.ga K x)) none H'
  | .nx ρ => ∀ B' H' σ', Ex B B' → ER K B0 H0 B' H' σ' ρ → D.nx σ' H'
  | .bk ρ => ∀ B' H' σ', Ex B B' → ER K B0 H0 B' H' σ' ρ → D.bk σ' H'
  | .ct ρ => ∀ B' H' σ', Ex B B' → ER K B0 H0 B' H' σ' ρ → D.ct σ' H'
  | .rt sl => ∀ v B' H', Gr B0 H0 B' H' → Res K H0 B' H' v sl → D.rt v H'
def DS (X : Cx) (E : XK) (st : Stmt) (f : Env → O) : Prop := ∃ t, PS X st t ∧ ∀ B0 H0 B H σ ρ D, ER X.K B0 H0 B H σ ρ → SPost X.K E B0 H0 B D (f ρ) → t D σ H
def DSs (X : Cx) (E : XK) (sts : List Stmt) (f : Env → O) : Prop := ∃ t, PSs X sts t ∧ ∀ B0 H0 B H σ ρ D, ER X.K B0 H0 B H σ ρ → SPost X.K E B0 H0 B D (f ρ) → t D σ H
theorem SPost.grow {K : PySem.W.Frag} {E : XK} {B0 H0 B B' : Hp} {D : Ends} {o : O} (e : Ex B B') (h : SPost K E B0 H0 B D o) : SPost K E B0 H0 B' D o := by
  cases o with
  | stuck => exact h
  | exc x => exact h
  | nx ρ => exact fun B2 H2 σ2 e2 r => h B2 H2 σ2 (e.trans e2) r
  | bk ρ => exact fun B2 H2 σ2 e2 r => h B2 H2 σ2 (e.trans e2) r
  | ct ρ => exact fun B2 H2 σ2 e2 r => h B2 H2 σ2 (e.trans e2) r
  | rt sl => exact h

/-- of an expression, then of what one does with its value -/
def oOf {α : Type} (r : M α) (k : α → O) : O := match r with
  | .stuck => .stuck
  | .exc x => .exc x
  | .ok a => k a
@[simp] theorem oOf_ok {α : Type} (a : α) (k : α → O) : oOf (.ok a) k = k a := rfl
@[simp] theorem oOf_exc {α : Type} (x : Str) (k : α → O) : oOf (.exc x : M α) k = .exc x := rfl
@[simp] theorem oOf_stuck {α : Type} (k : α → O) : oOf (.stuck : M α) k = .stuck := rfl
section
variable {X : Cx} {E : XK} {a b c e : Expr} {es : List Expr} {fa fb : Env → M Sl} {pos : Pos} {st : Stmt} {rest : List Stmt} {f g : Env → O}
/-- an expression's end, where its value may be one's own -/
theorem epost_of {K : PySem.W.Frag} {B0 H0 B H : Hp} {D : Ends} {σ : L2.St} {ρ : Env} {r : M Sl} {k : Sl → O} {Q : VK} (re : ER K B0 H0 B H σ ρ) (h : SPost K E B0 H0 B D (oOf r k))
    (hk : ∀ sl, r = .ok sl → SPost K E B0 H0 B D (k sl) → ∀ v B' H', Gr B H B' H' → Res K H B' H' v sl → Q v H') : EPost K E B H r Q := by
  cases r with
  | stuck => exact h.elim
  | exc x => exact fun H' e => h H' (re.gr.h.trans e)
  | ok sl => exact hk sl rfl h
theorem tpost_of {K : PySem.W.Frag} {B0 H0 B H : Hp} {D : Ends} {σ : L2.St} {ρ : Env} {r : M Bool} {k : Bool → O} {Q : Bool → Hp → Prop} (re : ER K B0 H0 B H σ ρ) (h : SPost K E B0 H0 B D (oOf r k))
    (hk : ∀ sl, r = .ok sl → SPost K E B0 H0 B D (k sl) → ∀ B' H', Gr B H B' H' → Q sl H') : TPost K E B H r Q := by
  cases r with
  | stuck => exact h.elim
  | exc x => exact fun H' e => h H' (re.gr.h.trans e)
  | ok sl => exact hk sl rfl h
def oSet (i : Nat) (fa : Env → M Sl) : Env → O := fun ρ => oOf (fa ρ) fun sl => .nx (ρ.set i (some sl))
theorem ds_set {i : Nat} {x : Str} {pos' : Pos} (hN : X.N.Nodup) (hi : X.N[i]? = some x) (hx : Loc X.env.scope x) (h : DE X E e fa) (hs : swapsWith e (some (.Name x pos')) pos.line X.env = pure false := by rfl) (hf : X.fn x = true ∨ X.env.scope.names.lookup x = some .local := by first | exact .inl rfl | exact .inr rfl | assumption) :
    DS X E (.Assign [.Name x pos'] e pos) (oSet i fa) := by
  obtain ⟨t, p, h⟩ := h
  refine ⟨_, ps_set hN hi hx p hs hf, fun B0 H0 B H σ ρ D re q => ?_⟩
  exact h B0 H0 B H σ ρ _ re (epost_of re q fun sl _ q v B' H' g r => q B' H' _ g.b (re.put g r))
def oExp (fa : Env → M Sl) : Env → O := fun ρ => oOf (fa ρ) fun _ => .nx ρ
theorem ds_expr (h : DE X E e fa) (hs : swapsWith e none pos.line X.env = pure false := by rfl) : DS X E (.Expr e pos) (oExp fa) := by
  obtain ⟨t, p, h⟩ := h
  refine ⟨_, ps_expr p hs, fun B0 H0 B H σ ρ D re q => ?_⟩
  exact h B0 H0 B H σ ρ _ re (epost_of re q fun sl _ q v B' H' g r => q B' H' _ g.b (re.grow g))
def oRet (fa : Env → M Sl) : Env → O := fun ρ => oOf (fa ρ) .rt
theorem ds_ret (h : DE X E e fa) : DS X E (.Return (some e) pos) (oRet fa) := by
  obtain ⟨t, p, h⟩ := h
  refine ⟨_, ps_ret p, fun B0 H0 B H σ ρ D re q => ?_⟩
  exact h B0 H0 B H σ ρ _ re (epost_of re q fun sl _ q v B' H' g r => q v B' H' (re.gr.trans g) (r.later re.gr.h))
/-- return of a name that may be one's own -/
def oRetV (i : Nat) : Env → O := fun ρ => match ρ[i]? with
  | some (some sl) => .rt sl
  | _ => .stuck
theorem ds_retV (i : Nat) (h : PE X e (tVar i)) : DS X E (.Return (some e) pos) (oRetV i) := by
  refine ⟨_, ps_ret h, fun B0 H0 B H σ ρ D re q => ?_⟩
  unfold oRetV at q
  split at q
  · rename_i sl hd
    cases sl with
    | dat d =>
      obtain ⟨v, h1, h2⟩ := re.dat i d hd
      exact ⟨v, h1, q v B H re.gr h2⟩
    | own d =>
      obtain ⟨p, o, h1, h2, h3, h4, h5⟩ := re.own i d hd
      exact ⟨_, h1, q _ B H re.gr ⟨p, o, rfl, h2, h3, h4, h5⟩⟩
  · exact q.elim
def oRetN : Env → O := fun _ => .rt (.dat .none)
theorem ds_retN : DS X E (.Return none pos) oRetN := ⟨_, ps_retN, fun B0 H0 B H σ ρ D re q => q _ B H re.gr .non⟩
def oNx : Env → O := fun ρ => .nx ρ
theorem ds_pass : DS X E (.Pass pos) oNx := ⟨_, ps_pass, fun B0 H0 B H σ ρ D re q => q B H σ (.refl _) re⟩
def oBk : Env → O := fun ρ => .bk ρ
def oCt : Env → O := fun ρ => .ct ρ
theorem ds_break : DS X E (.Break pos) oBk := ⟨_, ps_break, fun B0 H0 B H σ ρ D re q => q B H σ (.refl _) re⟩
theorem ds_continue : DS X E (.Continue pos) oCt := ⟨_, ps_continue, fun B0 H0 B H σ ρ D re q => q B H σ (.refl _) re⟩
def oSeq (f g : Env → O) : Env → O := fun ρ => match f ρ with
  | .nx ρ' => g ρ'
  | o => o
theorem dss_nil : DSs X E [] oNx := ⟨_, pss_nil, fun B0 H0 B H σ ρ D re q => q B H σ (.refl _) re⟩
theorem dss_one (h : DS X E st f) : DSs X E [st] f := let ⟨_, p, h⟩ := h; ⟨_, pss_one p, h⟩
theorem dss_cons (h : DS X E st f) (k : DSs X E rest g) : DSs X E (st :: rest) (oSeq f g) := by
  obtain ⟨t, p, h⟩ := h
  obtain ⟨u, pu, k⟩ := k
  refine ⟨_, pss_cons p pu, fun B0 H0 B H σ ρ D re q => ?_⟩
  refine h B0 H0 B H σ ρ _ re ?_
  unfold oSeq at q
  cases z : f ρ with
  | nx ρ' =>
    rw [z] at q
    exact fun B' H' σ' e r => k B0 H0 B' H' σ' ρ' D r (SPost.grow e q)
  | stuck => rw [z] at q; exact q
  | exc x => rw [z] at q; exact q
  | rt sl => rw [z] at q; exact q
  | bk ρ' => rw [z] at q; exact q
  | ct ρ' => rw [z] at q; exact q
/-- slots fixed ahead of a statement -/
def fixs (ρ : Env) : List Nat → Env
  | [] => ρ
  | i :: l => fixs (ρ.fix i) l
theorem ER.fixs {K : PySem.W.Frag} {B0 H0 H : Hp} {σ : L2.St} : ∀ (l : List Nat) {B : Hp} {ρ : Env}, ER K B0 H0 B H σ ρ → ∃ B2, (∀ a o, B2 a = some o → B a = some o ∨ Own o) ∧ Ex B B2 ∧ ER K B0 H0 B2 H σ (fixs ρ l)
  | [], B, ρ, r => ⟨B, fun a o h => .inl h, .refl _, r⟩
  | i :: l, B, ρ, r => by
    obtain ⟨B1, n1, e1, r1⟩ := r.fix (i := i)
    obtain ⟨B2, n2, e2, r2⟩ := ER.fixs l r1
    exact ⟨B2, fun a o h => (n2 a o h).elim (n1 a o) .inr, e1.trans e2, r2⟩
def oFix (l : List Nat) (f : Env → O) : Env → O := fun ρ => f (fixs ρ l)
theorem ds_fix (l : List Nat) (h : DS X E st f) : DS X E st (oFix l f) := by
  obtain ⟨t, p, h⟩ := h
  refine ⟨t, p, fun B0 H0 B H σ ρ D re q => ?_⟩
  obtain ⟨B2, _, e, r⟩ := re.fixs l
  exact h B0 H0 B2 H σ _ D r (SPost.grow e q)
theorem dss_fix {sts : List Stmt} (l : List Nat) (h : DSs X E sts f) : DSs X E sts (oFix l f) := by
  obtain ⟨t, p, h⟩ := h
  refine ⟨t, p, fun B0 H0 B H σ ρ D re q => ?_⟩
  obtain ⟨B2, _, e, r⟩ := re.fixs l
  exact h B0 H0 B2 H σ _ D r (SPost.grow e q)
def oIf (t : Env → M Bool) (f g : Env → O) : Env → O := fun ρ => oOf (t ρ) fun b => if b = true then f ρ else g ρ
theorem ds_if {c : Expr} {x y : List Stmt} {t : Env → M Bool} (h : DT X E c t) (hf : DSs X E x f) (hg : DSs X E y g) : DS X E (.If c x y pos) (oIf t f g) := by
  obtain ⟨u, p, h⟩ := h
  obtain ⟨tf, pf, hf⟩ := hf
  obtain ⟨tg, pg, hg⟩ := hg
  refine ⟨_, ps_if p pf pg, fun B0 H0 B H σ ρ D re q => ?_⟩
  refine h B0 H0 B H σ ρ _ re (tpost_of re q fun b _ q B' H' g1 => ?_)
  cases b with
  | true => exact hf B0 H0 B' H' σ ρ D (re.grow g1) (SPost.grow g1.b q)
  | false => exact hg B0 H0 B' H' σ ρ D (re.grow g1) (SPost.grow g1.b q)

/-! ### targets -/
/-- only the slots sl differ -/
def OnlyAt (sl : List Nat) (σ σ' : L2.St) : Prop := ∀ vs : List Nat, (∀ i ∈ sl, i ∈ vs) → wipe σ' vs = wipe σ vs
theorem OnlyAt.refl {sl : List Nat} {σ : L2.St} : OnlyAt sl σ σ := fun _ _ => rfl
theorem OnlyAt.trans {sl sl' : List Nat} {σ σ' σ2 : L2.St} (a : OnlyAt sl σ σ') (b : OnlyAt sl' σ' σ2) : OnlyAt (sl ++ sl') σ σ2 := fun vs h =>
  (b vs fun i hi => h i (List.mem_append_right _ hi)).trans (a vs fun i hi => h i (List.mem_append_left _ hi))
theorem wipe_none {σ : L2.St} : ∀ {vs : List Nat} {i : Nat}, i ∈ vs → (wipe σ vs)[i]? = some none ∨ (wipe σ vs).length ≤ i
  | v :: vs, i, h => by
    unfold wipe
    by_cases z : v = i
    · subst z
      by_cases l : v < (wipe σ vs).length
      · exact .inl (List.getElem?_set_self l)
      · exact .inr (by rw [List.length_set]; omega)
    · rcases List.mem_cons.mp h with e | h
      · exact absurd e.symm z
      · rw [List.getElem?_set_ne z, List.length_set]
        exact wipe_none h
theorem wipe_not {σ : L2.St} : ∀ {vs : List Nat} {i : Nat}, i ∉ vs → (wipe σ vs)[i]? = σ[i]?
  | [], _, _ => rfl
  | v :: vs, i, h => by
    unfold wipe
    rw [List.getElem?_set_ne (fun (e : v = i) => h (by rw [e]; exact List.mem_cons_self)), wipe_not fun q => h (List.mem_cons_of_mem _ q)]
theorem OnlyAt.set {i : Nat} {σ : L2.St} {x : Option V} : OnlyAt [i] σ (σ.set i x) := fun vs h => by
  have hi := h i List.mem_cons_self
  refine List.ext_getElem? fun j => ?_
  by_cases hj : j ∈ vs
  · rcases wipe_none (σ := σ) hj with e | e
    · rcases wipe_none (σ := σ.set i x) hj with e2 | e2
      · rw [e, e2]
      · rw [wipe_length, List.length_set] at e2
        rw [List.getElem?_eq_none (by rw [wipe_length, List.length_set]; exact e2), List.getElem?_eq_none (by rw [wipe_length]; exact e2)]
    · rw [wipe_length] at e
      rw [List.getElem?_eq_none (by rw [wipe_length, List.length_set]; exact e), List.getElem?_eq_none (by rw [wipe_length]; exact e)]
  · rw [wipe_not hj, wipe_not hj, List.getElem?_set_ne (fun (e : i = j) => hj (by rw [← e]; exact hi))]
def DG (X : Cx) (tg : Expr) (sl : List Nat) (bd : PyData → Env → M Env) : Prop := ∃ t, PG X tg t ∧ ∀ B0 H0 B H σ ρ v d ρ' (Q : L2.St → Hp → Prop), ER X.K B0 H0 B H σ ρ → R X.K B v d → bd d ρ = .ok ρ' → (∀ σ', ER X.K B0 H0 B H σ' ρ' → OnlyAt sl σ σ' → Q σ' H) → t v σ H Q
def DGs (X : Cx) (tgs : List Expr) (sl : List Nat) (bd : List PyData → Env → M Env) : Prop := ∃ t, PGs X tgs t ∧ ∀ B0 H0 B H σ ρ vs ds ρ' (Q : L2.St → Hp → Prop), ER X.K B0 H0 B H σ ρ → RA X.K B vs ds → bd ds ρ = .ok ρ' → (∀ σ', ER X.K B0 H0 B H σ' ρ' → OnlyAt sl σ σ' → Q σ' H) → t vs σ H Q
def bN (i : Nat) : PyData → Env → M Env := fun d ρ => .ok (ρ.set i (some (.dat d)))
theorem dg_name {i : Nat} {x : Str} (hN : X.N.Nodup) (hi : X.N[i]? = some x) (hx : Loc X.env.scope x) (hf : X.fn x = true ∨ X.env.scope.names.lookup x = some .local := by first | exact .inl rfl | exact .inr rfl | assumption) : DG X (.Name x pos) [i] (bN i) := by
  refine ⟨_, pg_name hN hi hx hf, fun B0 H0 B H σ ρ v d ρ' Q re r e k => ?_⟩
  cases e
  exact k _ (re.put (.refl re.gr.s) (sl := .dat d) r) .set
def bNil : List PyData → Env → M Env := fun ds ρ => match ds with
  | [] => .ok ρ
  | _ => .stuck
def bCons (t : PyData → Env → M Env) (u : List PyData → Env → M Env) : List PyData → Env → M Env := fun ds ρ => match ds with
  | d :: ds => (t d ρ).bind (u ds)
  | [] => .stuck
theorem dgs_nil : DGs X [] [] bNil := by
  refine ⟨_, pgs_nil, fun B0 H0 B H σ ρ vs ds ρ' Q re r e k => ?_⟩
  cases r with
  | nil =>
    cases e
    exact ⟨rfl, k σ re .refl⟩
  | cons _ _ => cases e
theorem dgs_cons {tg : Expr} {tgs : List Expr} {t : PyData → Env → M Env} {u : List PyData → Env → M Env} {l1 l2 : List Nat} (h : DG X tg l1 t) (k : DGs X tgs l2 u) (hs : (assignEach (tg :: tgs) X.env).map (·.2) = assign tg X.env :: (assignEach tgs X.env).map (·.2) := by rfl) : DGs X (tg :: tgs) (l1 ++ l2) (bCons t u) := by
  obtain ⟨tt, p, h⟩ := h
  obtain ⟨tu, pu, k⟩ := k
  refine ⟨_, pgs_cons p pu hs, fun B0 H0 B H σ ρ vs ds ρ' Q re r e q => ?_⟩
  cases r with
  | nil => cases e
  | cons r1 r2 =>
    rename_i v vs d ds
    unfold bCons at e
    simp only at e
    cases z : t d ρ with
    | stuck => rw [z] at e; cases e
    | exc x => rw [z] at e; cases e
    | ok ρ1 =>
      rw [z, bind_ok] at e
      exact ⟨v, vs, rfl, h B0 H0 B H σ ρ v d ρ1 _ re r1 z fun σ1 re1 o1 => k B0 H0 B H σ1 ρ1 vs ds ρ' Q re1 r2 e fun σ2 re2 o2 => q σ2 re2 (o1.trans o2)⟩
def bTup (n : Nat) (u : List PyData → Env → M Env) : PyData → Env → M Env := fun d ρ => match d with
  | .tuple ds => if ds.length = n then u ds ρ else .stuck
  | _ => .stuck
theorem dg_tup {tgs : List Expr} {k n : Nat} {sl : List Nat} {u : List PyData → Env → M Env} (hc : X.calm = true) (h : DGs X tgs sl u) (hn : (assignEach tgs X.env).length = n := by rfl) (hst : (assignEach tgs X.env).findIdx? (·.1) = none := by rfl) : DG X (.Tuple tgs k pos) sl (bTup n u) := by
  obtain ⟨t, p, h⟩ := h
  refine ⟨_, pg_tup hc p hn hst, fun B0 H0 B H σ ρ v d ρ' Q re r e q => ?_⟩
  unfold bTup at e
  split at e
  · rename_i ds
    split at e
    · rename_i hl
      cases r with
      | tup hs ra => exact ⟨_, _, rfl, ex_u re.gr.s hs, by rw [ra.length]; exact hl, h B0 H0 B H σ ρ _ ds ρ' Q re ra e q⟩
    · cases e
  · cases e
/-- a, b = e -/
def oAsg (fa : Env → M Sl) (bd : PyData → Env → M Env) : Env → O := fun ρ => oOf (fa ρ) fun sl => oOf (bd sl.d ρ) .nx
theorem ds_asg {tg : Expr} {sl : List Nat} {bd : PyData → Env → M Env} (h : DE X E e fa) (hg : DG X tg sl bd) (hs : swapsWithSole [tg] e pos.line X.env = pure false := by rfl) (hw : swappedStores [tg] e X.env = pure none := by rfl)
    (h1 : (assignEach [tg] X.env).map (·.2) = [assign tg X.env] := by rfl) (hb : ∀ d ρ x, bd d ρ ≠ .exc x) : DS X E (.Assign [tg] e pos) (oAsg fa bd) := by
  obtain ⟨t, p, h⟩ := h
  obtain ⟨g, pg, hg⟩ := hg
  refine ⟨_, ps_asg p pg hs hw h1, fun B0 H0 B H σ ρ D re q => ?_⟩
  refine h B0 H0 B H σ ρ _ re (epost_of re q fun sl _ q v B' H' g1 r => ?_)
  obtain ⟨B2, g2, r2⟩ := r.fix g1
  cases z : bd sl.d ρ with
  | stuck => rw [z] at q; exact q.elim
  | exc x => exact (hb _ _ _ z).elim
  | ok ρ1 =>
    rw [z] at q
    exact hg B0 H0 B2 H' σ ρ v sl.d ρ1 _ (re.grow g2) r2 z fun σ1 re1 _ => q B2 H' σ1 g2.b re1
theorem bN_ne {i : Nat} : ∀ d ρ x, bN i d ρ ≠ .exc x := fun _ _ _ h => by cases h
theorem bNil_ne : ∀ d ρ x, bNil d ρ ≠ .exc x := fun d _ _ h => by cases d <;> cases h
theorem bCons_ne {t : PyData → Env → M Env} {u : List PyData → Env → M Env} (ht : ∀ d ρ x, t d ρ ≠ .exc x) (hu : ∀ d ρ x, u d ρ ≠ .exc x) : ∀ d ρ x, bCons t u d ρ ≠ .exc x := fun ds ρ x h => by
  cases ds with
  | nil => cases h
  | cons d ds =>
    unfold bCons at h
    simp only at h
    cases z : t d ρ with
    | stuck => rw [z] at h; cases h
    | exc y => exact ht _ _ _ z
    | ok ρ1 =>
      rw [z, bind_ok] at h
      exact hu _ _ _ h
theorem bTup_ne {n : Nat} {u : List PyData → Env → M Env} (hu : ∀ d ρ x, u d ρ ≠ .exc x) : ∀ d ρ x, bTup n u d ρ ≠ .exc x := fun d ρ x h => by
  unfold bTup at h
  split at h
  · split at h
    · exact hu _ _ _ h
    · cases h
  · cases h

/-! ### what is walked -/
/-- n items, each at its turn the data ds[i] -/
def Wlk (K : PySem.W.Frag) (B : Hp) (J : It) (ds : List PyData) : Prop := ∃ G Y, Walk J ds.length G Y ∧ (∀ B1 H1, Ex B B1 → Ex B1 H1 → G H1) ∧
  ∀ (i : Nat) B1 H1 v H2, i < ds.length → Ex B B1 → Ex B1 H1 → Y i H1 v H2 → ∃ B2 d, ds[i]? = some d ∧ Gr B1 H1 B2 H2 ∧ R K B2 v d
def IPost (K : PySem.W.Frag) (E : XK) (B H : Hp) (r : M (List PyData)) (Q : It → Hp → Prop) : Prop := match r with
  | .stuck => False
  | .exc x => ∀ H', Ex H H' → E (.ref (He.ga K x)) none H'
  | .ok ds => ∀ J B' H', Gr B H B' H' → Wlk K B' J ds → Q J H'
def DI (X : Cx) (E : XK) (tg iter : Expr) (f : Env → M (List PyData)) : Prop := ∃ wi, PI X tg iter wi ∧ ∀ B0 H0 B H σ ρ Q, ER X.K B0 H0 B H σ ρ → IPost X.K E B H (f ρ) Q → wi σ H Q
theorem IPost.grow {K : PySem.W.Frag} {B H B' H' : Hp} {r : M (List PyData)} {Q : It → Hp → Prop} (g : Gr B H B' H') (h : IPost K E B H r Q) : IPost K E B' H' r Q := by
  cases r with
  | stuck => exact h
  | exc x => exact fun H2 e => h H2 (g.h.trans e)
  | ok sl => exact fun v B2 H2 g2 q => h v B2 H2 (g.trans g2) q
theorem IPost.bind {K : PySem.W.Frag} {B H : Hp} {α : Type} {r : M α} {g : α → M (List PyData)} {Q : It → Hp → Prop} (h : IPost K E B H (r.bind g) Q) : (∃ a, r = .ok a ∧ IPost K E B H (g a) Q) ∨ ∃ x, r = .exc x ∧ ∀ H', Ex H H' → E (.ref (He.ga K x)) none H' := by
  cases r with
  | stuck => exact h.elim
  | exc x => exact .inr ⟨x, rfl, h⟩
  | ok a => exact .inl ⟨a, rfl, h⟩
/-- for -/
def oFor (bd : PyData → Env → M Env) (body : Env → O) : List PyData → Env → O
  | [], ρ => .nx ρ
  | d :: ds, ρ => oOf (bd d ρ) fun ρ1 => match body ρ1 with
    | .nx ρ2 => oFor bd body ds ρ2
    | .ct ρ2 => oFor bd body ds ρ2
    | .bk ρ2 => .nx ρ2
    | .rt sl => .rt sl
    | .exc x => .exc x
    | .stuck => .stuck
def oForE (fi : Env → M (List PyData)) (bd : PyData → Env → M Env) (body : Env → O) : Env → O := fun ρ => oOf (fi ρ) fun ds => oFor bd body ds ρ
theorem ipost_of {K : PySem.W.Frag} {B0 H0 B H : Hp} {D : Ends} {σ : L2.St} {ρ : Env} {r : M (List PyData)} {k : List PyData → O} {Q : It → Hp → Prop} (re : ER K B0 H0 B H σ ρ) (h : SPost K E B0 H0 B D (oOf r k))
    (hk : ∀ sl, r = .ok sl → SPost K E B0 H0 B D (k sl) → ∀ J B' H', Gr B H B' H' → Wlk K B' J sl → Q J H') : IPost K E B H r Q := by
  cases r with
  | stuck => exact h.elim
  | exc x => exact fun H' e => h H' (re.gr.h.trans e)
  | ok sl => exact hk sl rfl h
theorem ds_for {tg iter : Expr} {sl : List Nat} {body : List Stmt} {fi : Env → M (List PyData)} {bd : PyData → Env → M Env} (hp : PassesOwn (model X.prog X.w) X.A X.env X.xe) (hc : X.calm = true) (hi : DI X E tg iter fi) (hg : DG X tg sl bd) (hb : DSs X E body f) (hne : ∀ d ρ x, bd d ρ ≠ .exc x)
    (hs : ∀ x, foldedSetIterable iter X.env x = pure x := by intro _; rfl) : DS X E (.For tg iter body [] pos) (oForE fi bd f) := by
  obtain ⟨wi, pi, hi⟩ := hi
  obtain ⟨g, pg, hg⟩ := hg
  obtain ⟨tb, pb, hb⟩ := hb
  refine ⟨_, ps_for hp hc pi pg pb hs, fun B0 H0 B H σ ρ D re q => ?_⟩
  refine hi B0 H0 B H σ ρ _ re (ipost_of re q fun ds _ q J B1 H1 g1 w => ?_)
  obtain ⟨G, Y, w, hG, hY⟩ := w
  refine for_it w (fun i σ' H' => ∃ B' ρ', ER X.K B0 H0 B' H' σ' ρ' ∧ Ex B1 B' ∧ SPost X.K E B0 H0 B' D (oFor bd f (ds.drop i) ρ')) ⟨B1, ρ, re.grow g1, .refl _, SPost.grow g1.b q⟩ (fun i σ' H' _ ⟨B', ρ', r, e, _⟩ => hG B' H' e r.gr.s) ?_ ?_
  · rintro i v σ' H2 H3 hlt ⟨B', ρ', r, e, s⟩ y
    obtain ⟨B2, d, hd, g2, rv⟩ := hY i B' H2 v H3 hlt e r.gr.s y
    have r2 := r.grow g2
    have hdr : ds.drop i = d :: ds.drop (i + 1) := by
      have hh : i < ds.length := hlt
      rw [List.getElem?_eq_getElem hh] at hd
      cases hd
      exact List.drop_eq_getElem_cons hh
    rw [hdr] at s
    unfold oFor at s
    cases z : bd d ρ' with
    | stuck => rw [z] at s; exact s.elim
    | exc x => exact (hne _ _ _ z).elim
    | ok ρ1 =>
      rw [z, oOf_ok] at s
      refine hg B0 H0 B2 H3 σ' ρ' v d ρ1 _ r2 rv z fun σ1 re1 _ => ?_
      refine hb B0 H0 B2 H3 σ1 ρ1 _ re1 ?_
      have s := SPost.grow g2.b s
      cases zb : f ρ1 with
      | nx ρ2 =>
        rw [zb] at s
        exact fun B4 H4 σ4 e4 r4 => ⟨B4, ρ2, r4, e.trans (g2.b.trans e4), SPost.grow e4 s⟩
      | ct ρ2 =>
        rw [zb] at s
        exact fun B4 H4 σ4 e4 r4 => ⟨B4, ρ2, r4, e.trans (g2.b.trans e4), SPost.grow e4 s⟩
      | bk ρ2 =>
        rw [zb] at s
        exact s
      | rt sl =>
        rw [zb] at s
        exact s
      | exc x =>
        rw [zb] at s
        exact s
      | stuck =>
        rw [zb] at s
        exact s
  · rintro σ' H2 ⟨B', ρ', r, e, s⟩
    rw [List.drop_length] at s
    exact s B' H2 σ' (.refl _) r

/-! ### while, with a number of turns that is enough -/
def oWhile (t : Env → M Bool) (body : Env → O) : Nat → Env → O
  | 0, _ => .stuck
  | n + 1, ρ => oOf (t ρ) fun b => if b = true then (match body ρ with
    | .nx ρ2 => oWhile t body n ρ2
    | .ct ρ2 => oWhile t body n ρ2
    | .bk ρ2 => .nx ρ2
    | .rt sl => .rt sl
    | .exc x => .exc x
    | .stuck => .stuck) else .nx ρ
end
end Dl
/-! The data layer: while, comprehensions, one's own lists read and changed, defs. -/
namespace Dl
open PySem PySem.Spec PyProof.Rows L2
section
variable {X : Cx} {E : XK} {a b c e : Expr} {es : List Expr} {fa fb : Env → M Sl} {pos : Pos} {st : Stmt} {rest : List Stmt} {f g : Env → O}
/-! ### while -/
theorem ds_while (n : Nat) {c : Expr} {body : List Stmt} {t : Env → M Bool} (hp : PassesOwn (model X.prog X.w) X.A X.env X.xe) (h : DT X E c t) (hb : DSs X E body f) : DS X E (.While c body [] pos) (oWhile t f n) := by
  obtain ⟨tt, p, h⟩ := h
  obtain ⟨tb, pb, hb⟩ := hb
  refine ⟨_, ps_while hp p pb, fun B0 H0 B H σ ρ D re q => ?_⟩
  refine ⟨fun m σ' H' => ∃ B' ρ', ER X.K B0 H0 B' H' σ' ρ' ∧ SPost X.K E B0 H0 B' D (oWhile t f m ρ'), ⟨n, B, ρ, re, q⟩, ?_⟩
  rintro m σ' H' ⟨B', ρ', r, s⟩
  cases m with
  | zero => exact s.elim
  | succ m =>
    unfold oWhile at s
    refine h B0 H0 B' H' σ' ρ' _ r (tpost_of r s fun bb _ s B2 H2 g2 => ?_)
    cases bb with
    | false => exact s B2 H2 σ' g2.b (r.grow g2)
    | true =>
      refine iteT ⟨fun σ3 H3 => ∃ m', m' < m + 1 ∧ ∃ B3 ρ3, ER X.K B0 H0 B3 H3 σ3 ρ3 ∧ SPost X.K E B0 H0 B3 D (oWhile t f m' ρ3), fun σ3 H3 z => z, ?_⟩
      refine hb B0 H0 B2 H2 σ' ρ' _ (r.grow g2) ?_
      have s := SPost.grow g2.b s
      rw [if_pos rfl] at s
      cases zb : f ρ' with
      | nx ρ2 =>
        rw [zb] at s
        exact fun B4 H4 σ4 e4 r4 => ⟨m, Nat.lt_succ_self m, B4, ρ2, r4, SPost.grow e4 s⟩
      | ct ρ2 =>
        rw [zb] at s
        exact fun B4 H4 σ4 e4 r4 => ⟨m, Nat.lt_succ_self m, B4, ρ2, r4, SPost.grow e4 s⟩
      | bk ρ2 =>
        rw [zb] at s
        exact s
      | rt sl =>
        rw [zb] at s
        exact s
      | exc x =>
        rw [zb] at s
        exact s
      | stuck =>
        rw [zb] at s
        exact s

/-! ### data that no store changes -/
mutual
def imm : PyData → Bool
  | .none => true
  | .bool _ => true
  | .int _ => true
  | .str _ => true
  | .tuple xs => immA xs
  | .list _ => false
  | .dict _ => false
def immA : List PyData → Bool
  | [] => true
  | x :: xs => imm x && immA xs
end
section
variable {K : PySem.W.Frag} {B B' : Hp}
mutual
theorem R.immR (h : ∀ a o, B a = some o → B' a = some o ∨ Own o) : ∀ {v : V} {d : PyData}, R K B v d → imm d = true → R K B' v d
  | _, _, .non, _ => .non
  | _, _, .bl b, _ => .bl b
  | _, _, .int i, _ => .int i
  | _, _, .str x, _ => .str x
  | _, _, .lst _ _, i => by simp [imm] at i
  | _, _, .tup hs r, i => by
    refine .tup ?_ (RA.immR h r (by simpa [imm] using i))
    exact (h _ _ hs).elim id False.elim
  | _, _, .tupF _ _, i => by simp [imm] at i
  | _, _, .dK _ _, i => by simp [imm] at i
  | _, _, .dT _ _, i => by simp [imm] at i
  | _, _, .ins _ _, i => by simp [imm] at i
  | _, _, .scr _, i => by simp [imm] at i
theorem RA.immR (h : ∀ a o, B a = some o → B' a = some o ∨ Own o) : ∀ {vs : List V} {ds : List PyData}, RA K B vs ds → immA ds = true → RA K B' vs ds
  | _, _, .nil, _ => .nil
  | _, _, .cons r q, i => by
    rw [immA, Bool.and_eq_true] at i
    exact .cons (R.immR h r i.1) (RA.immR h q i.2)
end
end
def immSl : Sl → Bool
  | .dat d => imm d
  | .own (.list ds) => immA ds
  | .own _ => false
/-! ### an expression that reads one's own objects -/
def pubM (r : M Sl) : M Sl := match r with
  | .ok sl => if immSl sl = true then .ok sl else .stuck
  | r => r
def fixAll (ρ : Env) : Env := fixs ρ (List.range ρ.length)
def ePub (f : Env → M Sl) : Env → M Sl := fun ρ => pubM (f (fixAll ρ))
def tPub (f : Env → M Bool) : Env → M Bool := fun ρ => f (fixAll ρ)
/-- back from the heap where all is fixed -/
theorem back_of {B B2 H B3 H3 : Hp} (e : Ex B B2) (s2 : Ex B2 H) (n : ∀ a o, B2 a = some o → B a = some o ∨ Own o) (g : Gr B2 H B3 H3) : ∃ B', Gr B H B' H3 ∧ (∀ a o, B3 a = some o → B' a = some o ∨ Own o) ∧ ∀ a, H a = none → B' a = B3 a := by
  have some_ne : ∀ a o, H a = some o → ¬ H a = none := fun a o h z => by rw [z] at h; cases h
  refine ⟨fun a => if H a = none then B3 a else B a, ⟨fun a o h => ?_, g.h, fun a o h => ?_, fun a o h z => ?_⟩, fun a o h => ?_, fun a h => ?_⟩
  · show (if H a = none then B3 a else B a) = some o
    rw [if_neg (some_ne a o (s2 a o (e a o h)))]
    exact h
  · have h : (if H a = none then B3 a else B a) = some o := h
    split at h
    · exact g.s a o h
    · exact g.s a o (g.b a o (e a o h))
  · show (if H a = none then B3 a else B a) = none
    rw [if_neg (some_ne a o h)]
    exact z
  · show (if H a = none then B3 a else B a) = some o ∨ _
    split
    · exact .inl h
    · rename_i hn
      cases q : B2 a with
      | none =>
        cases z : H a with
        | none => exact absurd z hn
        | some u =>
          rw [g.l a u z q] at h
          cases h
      | some u =>
        have k := g.b a u q
        rw [h] at k
        cases k
        exact n a o q
  · show (if H a = none then B3 a else B a) = B3 a
    rw [if_pos h]
theorem de_pub (h : DE X E e fa) : DE X E e (ePub fa) := by
  obtain ⟨t, p, h⟩ := h
  refine ⟨t, p, fun B0 H0 B H σ ρ Q re q => ?_⟩
  obtain ⟨B2, n, ex, r2⟩ := re.fixs (List.range ρ.length)
  refine h B0 H0 B2 H σ _ Q r2 ?_
  unfold ePub at q
  have q : EPost X.K E B H (pubM (fa (fixs ρ (List.range ρ.length)))) Q := q
  cases z : fa (fixs ρ (List.range ρ.length)) with
  | stuck => rw [z] at q; exact q.elim
  | exc x => rw [z] at q; exact q
  | ok sl =>
    rw [z] at q
    unfold pubM at q
    simp only at q
    split at q
    · rename_i hi
      intro v B3 H3 g r
      obtain ⟨B', g', n', e'⟩ := back_of ex r2.gr.s n g
      refine q v B' H3 g' ?_
      cases sl with
      | dat d => exact r.immR n' hi
      | own d =>
        obtain ⟨p, o, h1, h2, h3, h4, h5⟩ := r
        refine ⟨p, o, h1, h2, by rw [e' p h2]; exact h3, h4, ?_⟩
        cases h5 with
        | lst ra => exact .lst (ra.immR n' hi)
        | dK ra => cases hi
        | dT ra => cases hi
    · exact q.elim
theorem dt_pub {c : Expr} {t : Env → M Bool} (h : DT X E c t) : DT X E c (tPub t) := by
  obtain ⟨u, p, h⟩ := h
  refine ⟨u, p, fun B0 H0 B H σ ρ Q re q => ?_⟩
  obtain ⟨B2, n, ex, r2⟩ := re.fixs (List.range ρ.length)
  refine h B0 H0 B2 H σ _ Q r2 ?_
  unfold tPub at q
  have q : TPost X.K E B H (t (fixs ρ (List.range ρ.length))) Q := q
  cases z : t (fixs ρ (List.range ρ.length)) with
  | stuck => rw [z] at q; exact q.elim
  | exc x => rw [z] at q; exact q
  | ok b =>
    rw [z] at q
    intro B3 H3 g
    obtain ⟨B', g', _, _⟩ := back_of ex r2.gr.s n g
    exact q B' H3 g'

theorem ER.own_put {K : PySem.W.Frag} {B0 H0 B H : Hp} {σ : L2.St} {ρ : Env} {i : Nat} {d d' : PyData} {p : Addr} {o o' : HO} (r : ER K B0 H0 B H σ ρ) (hi : ρ[i]? = some (some (.own d))) (hs : σ[i]? = some (some (.ref p))) (ho : H p = some o) (hb : B p = none) (h0 : H0 p = none) (t : Top K B o' d') :
    ER K B0 H0 B (upd H p o') σ (ρ.set i (some (.own d'))) := by
  have hl : i < ρ.length := (List.getElem?_eq_some_iff.mp hi).1
  have ne : ∀ a u, H0 a = some u → a ≠ p := fun a u h z => by rw [z, h0] at h; cases h
  have nb : ∀ a u, B a = some u → a ≠ p := fun a u h z => by rw [z, hb] at h; cases h
  refine ⟨⟨r.gr.b, fun a u h => by rw [upd_ne (ne a u h)]; exact r.gr.h a u h, fun a u h => by rw [upd_ne (nb a u h)]; exact r.gr.s a u h, r.gr.l⟩, by rw [List.length_set]; exact r.len, fun j c e => ?_, fun j c e => ?_, fun j k c c' q e1 e2 e3 e4 => ?_⟩
  · by_cases z : i = j
    · subst z
      rw [List.getElem?_set_self hl] at e
      cases e
    · rw [List.getElem?_set_ne z] at e
      exact r.dat j c e
  · by_cases z : i = j
    · subst z
      rw [List.getElem?_set_self hl] at e
      cases e
      exact ⟨p, o', hs, h0, hb, upd_same, t⟩
    · rw [List.getElem?_set_ne z] at e
      obtain ⟨p2, o2, k1, k2, k3, k4, k5⟩ := r.own j c e
      have hp : p2 ≠ p := fun zz => z (r.sep i j d c p hi e hs (by rw [← zz]; exact k1))
      exact ⟨p2, o2, k1, k2, k3, by rw [upd_ne hp]; exact k4, k5⟩
  · have own_at : ∀ (j : Nat) c, (ρ.set i (some (.own d')))[j]? = some (some (.own c)) → ∃ c2, ρ[j]? = some (some (.own c2)) := by
      intro j c e
      by_cases z : i = j
      · subst z
        exact ⟨d, hi⟩
      · rw [List.getElem?_set_ne z] at e
        exact ⟨c, e⟩
    obtain ⟨c1, f1⟩ := own_at j c e1
    obtain ⟨c2, f2⟩ := own_at k c' e2
    exact r.sep j k c1 c2 q f1 f2 e3 e4
/-! ### one's own list changed by a method -/
/-- by data: a method that changes its list -/
def MutU (X : Cx) (r : V → List V → Hp → VK → Prop) (g : List PyData → List PyData → Option (List PyData × PyData)) : Prop :=
  ∀ p vs l xs ds l' d B H (Q : VK), H p = some (.lst vs) → RA X.K B vs l → RA X.K B xs ds → g l ds = some (l', d) → (∀ vs' y, RA X.K B vs' l' → R X.K B y d → Q y (upd H p (.lst vs'))) → r (.ref p) xs H Q
def gAppend (l ds : List PyData) : Option (List PyData × PyData) := match ds with
  | [d] => if big (l.length + 1) = true then some (l ++ [d], .none) else none
  | _ => none
theorem mut_append : MutU X rAppend gAppend := by
  intro p vs l xs ds l' d B H Q ho rl ra e k
  unfold gAppend at e
  split at e
  · split at e
    · rename_i hb
      cases e
      cases ra with
      | cons r1 r2 =>
        cases r2
        exact ⟨p, vs, _, rfl, rfl, ho, by rw [rl.length]; exact big_ok hb, k _ _ (rl.snoc r1) .non⟩
    · cases e
  · cases e
def gPop (l ds : List PyData) : Option (List PyData × PyData) := match ds with
  | [] => (match l[l.length - 1]? with
    | some d => some (l.dropLast, d)
    | none => none)
  | _ => none
theorem mut_pop : MutU X rPop gPop := by
  intro p vs l xs ds l' d B H Q ho rl ra e k
  unfold gPop at e
  split at e
  · split at e
    · rename_i y hy
      cases e
      cases ra
      obtain ⟨v, h1, h2⟩ := rl.get hy
      exact ⟨p, vs, v, rfl, rfl, ho, by rw [rl.length]; exact h1, k _ _ rl.dropLast h2⟩
    · cases e
  · cases e
def gPopAt (l ds : List PyData) : Option (List PyData × PyData) := match ds with
  | [.int i] => if 0 ≤ i ∧ i < (l.length : Int) ∧ big l.length = true then (match l[i.toNat]? with
    | some d => some (l.eraseIdx i.toNat, d)
    | none => none) else none
  | _ => none
theorem mut_popAt : MutU X rPopAt gPopAt := by
  intro p vs l xs ds l' d B H Q ho rl ra e k
  unfold gPopAt at e
  split at e
  · rename_i i
    split at e
    · rename_i hb
      obtain ⟨h0, h1, h2⟩ := hb
      split at e
      · rename_i y hy
        cases e
        cases ra with
        | cons r1 r2 =>
          cases r2
          cases r1
          obtain ⟨v, k1, k2⟩ := rl.get hy
          have h3 := of_decide_eq_true h2
          refine ⟨p, vs, i, i.toNat, v, rfl, rfl, ho, by omega, by omega, ?_, k1, k _ _ (rl.eraseIdx _) k2⟩
          have := (ixN_seq (n := vs.length) (i := i) (j := i.toNat) (by
            unfold ixN
            rw [if_pos h0, if_pos (by rw [rl.length]; omega)])).1
          exact this
      · cases e
    · cases e
  · cases e
def gReverse (l ds : List PyData) : Option (List PyData × PyData) := match ds with
  | [] => some (l.reverse, .none)
  | _ => none
theorem mut_reverse : MutU X rReverse gReverse := by
  intro p vs l xs ds l' d B H Q ho rl ra e k
  unfold gReverse at e
  split at e
  · cases e
    cases ra
    exact ⟨p, vs, rfl, rfl, ho, k _ _ rl.reverse .non⟩
  · cases e
/-! ### an expression that changes a slot's own list -/
def MPost (K : PySem.W.Frag) (E : XK) (B0 H0 B : Hp) (σ : L2.St) (r : M (PyData × Env)) (Q : VK) : Prop := match r with
  | .stuck => False
  | .exc x => ∀ H', Ex H0 H' → E (.ref (He.ga K x)) none H'
  | .ok (d, ρ) => ∀ v B' H', Ex B B' → ER K B0 H0 B' H' σ ρ → R K B' v d → Q v H'
def DM (X : Cx) (E : XK) (e : Expr) (f : Env → M (PyData × Env)) : Prop := ∃ t, PE X e t ∧ ∀ B0 H0 B H σ ρ Q, ER X.K B0 H0 B H σ ρ → MPost X.K E B0 H0 B σ (f ρ) Q → t σ H Q
def mLift (f : Env → M Sl) : Env → M (PyData × Env) := fun ρ => (f ρ).bind fun x => .ok (x.d, ρ)
theorem dm_lift (h : DE X E e fa) : DM X E e (mLift fa) := by
  obtain ⟨t, p, h⟩ := h
  refine ⟨t, p, fun B0 H0 B H σ ρ Q re q => ?_⟩
  refine h B0 H0 B H σ ρ Q re ?_
  unfold mLift at q
  cases z : fa ρ with
  | stuck => rw [z] at q; exact q.elim
  | exc x =>
    rw [z] at q
    exact fun H' e => q H' (re.gr.h.trans e)
  | ok sl =>
    rw [z] at q
    intro v B' H' g r
    obtain ⟨B2, g2, r2⟩ := r.fix g
    exact q v B2 H' g2.b (re.grow g2) r2
def mMut (i : Nat) (g : List PyData → List PyData → Option (List PyData × PyData)) (f : Env → M (List PyData)) : Env → M (PyData × Env) := fun ρ => match ρ[i]? with
  | some (some (.own (.list l))) => (f ρ).bind fun ds => (match g l ds with
    | some (l', d) => .ok (d, ρ.set i (some (.own (.list l'))))
    | none => .stuck)
  | _ => .stuck
theorem run_mut {i : Nat} {r : V → List V → Hp → VK → Prop} {g : List PyData → List PyData → Option (List PyData × PyData)} {fs : Env → M (List PyData)} {t : TA} (hg : MutU X r g)
    (h : ∀ B0 H0 B H σ ρ Q, ER X.K B0 H0 B H σ ρ → APost X.K E B H (fs ρ) Q → t σ H Q) : ∀ B0 H0 B H σ ρ Q, ER X.K B0 H0 B H σ ρ → MPost X.K E B0 H0 B σ (mMut i g fs ρ) Q → tBM X.K "list" r (tVar i) t σ H Q := by
  intro B0 H0 B H σ ρ Q re q
  unfold mMut at q
  split at q
  · rename_i l hi
    obtain ⟨p, o, h1, h2, h3, h4, h5⟩ := re.own i _ hi
    cases h5 with
    | lst rl =>
      rename_i vs
      refine ⟨_, h1, .inl ⟨rfl, vs, SqL.of h4⟩, h B0 H0 B H σ ρ _ re ?_⟩
      cases z : fs ρ with
      | stuck => rw [z] at q; exact q.elim
      | exc x =>
        rw [z] at q
        exact fun H' e => q H' (re.gr.h.trans e)
      | ok ds =>
        rw [z, bind_ok] at q
        intro xs B1 H1 g1 ra
        split at q
        · rename_i l' d hgd
          refine hg p vs l xs ds l' d B1 H1 Q (g1.h p _ h4) (rl.mono g1.b) ra hgd fun vs' y rv ry => ?_
          have nb : B1 p = none := g1.l p _ h4 h3
          exact q y B1 _ g1.b ((re.grow g1).own_put hi h1 (g1.h p _ h4) nb h2 (.lst rv)) ry
        · exact q.elim
  · exact q.elim
theorem dm_mut {i : Nat} {id : String} {name : Str} {r : V → List V → Hp → VK → Prop} {g : List PyData → List PyData → Option (List PyData × PyData)} {o : Expr} {fs : Env → M (List PyData)} {apos cpos : Pos} (sl : Slot "list" name id) (hty : typeOf (.builtin id) = pure (.type "method_descriptor")) (hm : MtR X id r) (hg : MutU X r g)
    (ho : PE X o (tVar i)) (ha : DA X E (e :: es) fs)
    (hpe : ∀ t, PA X (e :: es) t → PE X (.Call (.Attribute o name apos) (e :: es) [] cpos) (tBM X.K "list" r (tVar i) t)) : DM X E (.Call (.Attribute o name apos) (e :: es) [] cpos) (mMut i g fs) := by
  obtain ⟨t, p, h⟩ := ha
  exact ⟨_, hpe t p, run_mut hg h⟩
theorem dm_mut0 {i : Nat} {r : V → List V → Hp → VK → Prop} {g : List PyData → List PyData → Option (List PyData × PyData)} {c : Expr} (hg : MutU X r g) (hpe : PE X c (tBM0 X.K "list" r (tVar i))) : DM X E c (mMut i g aNil) := by
  refine ⟨_, hpe, fun B0 H0 B H σ ρ Q re q => ?_⟩
  have := run_mut (i := i) (E := E) (t := tNil) hg (fs := aNil) (fun B0 H0 B H σ ρ Q re q => q [] B H (.refl re.gr.s) .nil) B0 H0 B H σ ρ Q re q
  exact this
/-- a statement that only does this -/
def oMutS (f : Env → M (PyData × Env)) : Env → O := fun ρ => oOf (f ρ) fun x => .nx x.2
theorem mpost_of {K : PySem.W.Frag} {B0 H0 B H : Hp} {D : Ends} {σ : L2.St} {r : M (PyData × Env)} {k : PyData × Env → O} {Q : VK} (h : SPost K E B0 H0 B D (oOf r k))
    (hk : ∀ d ρ, r = .ok (d, ρ) → SPost K E B0 H0 B D (k (d, ρ)) → ∀ v B' H', Ex B B' → ER K B0 H0 B' H' σ ρ → R K B' v d → Q v H') : MPost K E B0 H0 B σ r Q := by
  cases r with
  | stuck => exact h.elim
  | exc x => exact h
  | ok sl => exact hk sl.1 sl.2 rfl h
theorem ds_mut {m : Env → M (PyData × Env)} (h : DM X E e m) (hs : swapsWith e none pos.line X.env = pure false := by rfl) : DS X E (.Expr e pos) (oMutS m) := by
  obtain ⟨t, p, h⟩ := h
  refine ⟨_, ps_expr p hs, fun B0 H0 B H σ ρ D re q => ?_⟩
  exact h B0 H0 B H σ ρ _ re (mpost_of (H := H) q fun d ρ' _ q v B' H' eb r _ => q B' H' σ eb r)
def oMutA (i : Nat) (f : Env → M (PyData × Env)) : Env → O := fun ρ => oOf (f ρ) fun x => .nx (x.2.set i (some (.dat x.1)))
theorem ds_mutA {m : Env → M (PyData × Env)} {i : Nat} {x : Str} {pos' : Pos} (hN : X.N.Nodup) (hi : X.N[i]? = some x) (hx : Loc X.env.scope x) (h : DM X E e m) (hs : swapsWith e (some (.Name x pos')) pos.line X.env = pure false := by rfl) (hf : X.fn x = true ∨ X.env.scope.names.lookup x = some .local := by first | exact .inl rfl | exact .inr rfl | assumption) :
    DS X E (.Assign [.Name x pos'] e pos) (oMutA i m) := by
  obtain ⟨t, p, h⟩ := h
  refine ⟨_, ps_set hN hi hx p hs hf, fun B0 H0 B H σ ρ D re q => ?_⟩
  exact h B0 H0 B H σ ρ _ re (mpost_of (H := H) q fun d ρ' _ q v B' H' eb r rv => q B' H' _ eb (r.put (.refl r.gr.s) (sl := .dat d) rv))
/-- arguments whose first one changes a slot -/
def DAM (X : Cx) (E : XK) (es : List Expr) (f : Env → M (List PyData × Env)) : Prop := ∃ t, PA X es t ∧ ∀ B0 H0 B H σ ρ (Q : List V → Hp → Prop), ER X.K B0 H0 B H σ ρ →
  (match f ρ with
    | .stuck => False
    | .exc x => ∀ H', Ex H0 H' → E (.ref (He.ga X.K x)) none H'
    | .ok (ds, ρ') => ∀ vs B' H', Ex B B' → ER X.K B0 H0 B' H' σ ρ' → RA X.K B' vs ds → Q vs H') → t σ H Q
def amCons (f : Env → M (PyData × Env)) (g : Env → M (List PyData)) : Env → M (List PyData × Env) := fun ρ => (f ρ).bind fun x => (g x.2).bind fun ds => .ok (x.1 :: ds, x.2)
theorem dam_cons {m : Env → M (PyData × Env)} {gs : Env → M (List PyData)} (h : DM X E e m) (k : DA X E es gs) (hs : starEach (e :: es) X.env = (false, eval e X.env) :: starEach es X.env := by rfl) : DAM X E (e :: es) (amCons m gs) := by
  obtain ⟨t, p, h⟩ := h
  obtain ⟨u, pu, k⟩ := k
  refine ⟨_, pa_cons p pu hs, fun B0 H0 B H σ ρ Q re q => ?_⟩
  refine h B0 H0 B H σ ρ _ re ?_
  unfold amCons at q
  cases z : m ρ with
  | stuck => rw [z] at q; exact q.elim
  | exc x => rw [z] at q; exact q
  | ok y =>
    obtain ⟨d, ρ1⟩ := y
    rw [z] at q
    intro v B1 H1 e1 r1 rv
    refine k B0 H0 B1 H1 σ ρ1 _ r1 ?_
    simp only [bind_ok] at q
    cases z2 : gs ρ1 with
    | stuck => rw [z2] at q; exact q.elim
    | exc x =>
      rw [z2] at q
      exact fun H' e => q H' (r1.gr.h.trans e)
    | ok ds =>
      rw [z2] at q
      exact fun vs B2 H2 g2 ra => q (v :: vs) B2 H2 (e1.trans g2.b) (r1.grow g2) (.cons (rv.mono g2.b) ra)
end
/-! ### defs -/
def fnO (n m : Nat) (o : Env → O) : List PyData → M Sl := fun ds => if ds.length = n then (match o (ds.map (fun d => some (Sl.dat d)) ++ List.replicate (m - n) none) with
  | .rt sl => .ok sl
  | .nx _ => .ok (.dat .none)
  | .exc x => .exc x
  | _ => .stuck) else .stuck
theorem er_start {K : PySem.W.Frag} {N : List Str} {vs : List V} {ds : List PyData} {B H : Hp} (e : Ex B H) (r : RA K B vs ds) : ER K B H B H (L2.start N vs) (ds.map (fun d => some (Sl.dat d)) ++ List.replicate (N.length - ds.length) none) := by
  have hl := r.length
  refine ⟨.refl e, ?_, fun i d q => ?_, fun i d q => ?_, fun i j d e p q => ?_⟩
  · unfold L2.start
    simp [hl]
  · by_cases z : i < ds.length
    · rw [List.getElem?_append_left (by simpa using z), List.getElem?_map] at q
      cases z2 : ds[i]? with
      | none => rw [z2] at q; cases q
      | some d2 =>
        rw [z2] at q
        cases q
        obtain ⟨v, k1, k2⟩ := r.get z2
        refine ⟨v, ?_, k2⟩
        unfold L2.start
        rw [List.getElem?_append_left (by simpa [hl] using z), List.getElem?_map, k1]
        rfl
    · rw [List.getElem?_append_right (by simpa using z)] at q
      simp only [List.getElem?_replicate] at q
      split at q <;> cases q
  all_goals
    by_cases z : i < ds.length
    · rw [List.getElem?_append_left (by simpa using z), List.getElem?_map] at q
      cases z2 : ds[i]? with
      | none => rw [z2] at q; cases q
      | some d2 => rw [z2] at q; cases q
    · rw [List.getElem?_append_right (by simpa using z)] at q
      simp only [List.getElem?_replicate] at q
      split at q <;> cases q
/-- what a body does is what the def promises -/
theorem body_ok {X : Cx} {E : XK} {body : List Stmt} {o : Env → O} {N : List Str} {n : Nat} (h : DSs X E body o) {vs : List V} {H : Hp} {Q : VK} (hs : spD X.K n (fnO n N.length o) vs H Q E) :
    ∃ t, PSs X body t ∧ t { nx := fun _ H' => Q .non H', rt := Q } (L2.start N vs) H := by
  obtain ⟨t, p, h⟩ := h
  obtain ⟨hn, ds, B, e, r, q⟩ := hs
  refine ⟨t, p, h B H B H _ _ _ (er_start e r) ?_⟩
  have hl : ds.length = n := by rw [← r.length]; exact hn
  unfold fnO at q
  rw [if_pos hl, ← hl] at q
  cases z : o (ds.map (fun d => some (Sl.dat d)) ++ List.replicate (N.length - ds.length) none) with
  | stuck => rw [z] at q; exact q.elim
  | exc x => rw [z] at q; exact q
  | bk ρ => rw [z] at q; exact q.elim
  | ct ρ => rw [z] at q; exact q.elim
  | nx ρ =>
    rw [z] at q
    exact fun B' H' σ' _ r' => q .non B' H' r'.gr .non
  | rt sl =>
    rw [z] at q
    exact q
/-- what is known of a def of the text -/
def Knows (P : Program) (w : World) (K : PySem.W.Frag) (mg : Str → Option Value) (base : Heap) (x : Str) (k : Nat) (ps : List Str) (g : List PyData → M Sl) : Prop :=
  mg x = some (.ref (He.ga K x)) ∧ PySem.W.keepIn K (.ref (He.ga K x)) = true ∧ ∃ fd, FnOk P w K mg base (L2.CX P w) k (He.ga K x) fd ps (spD K ps.length g) ∧ Binds K fd ps []
section
variable {P : Program} {w : World} {K : PySem.W.Frag} {mg : Str → Option Value} {base : Heap}
theorem kn_mk {x qual : Str} {st : Stmt} {N ps : List Str} {k : Nat} {o : Env → O} (hF : ∃ fd, FunD K x qual (defArgs st) (defBody st) (defScope st) [] [] (He.ga K x) fd) (S : FnScope N ps (defScope st)) (hm : mg x = some (.ref (He.ga K x)))
    (hb : ∀ (kV doc pm : Value) (an : Option Addr) (cdv ct : Value) (us : List Value), us.length = ps.length → bindArgs (PySem.W.fnOf x qual (defArgs st) (defBody st) (defScope st) .none kV doc pm an cdv ct) ⟨us, []⟩ = pure (ps.zip us))
    (h : ∀ (cdv : Value) (A : Around) (outer : List PySem.Env) (s : Shared) (H : Hp) (E : XK), Room k (A.deeper (envOfC qual (defScope st) s.heap.objs.size (He.ga K x) cdv)) →
      Passes (L2.CX P w) (cxOf (L2.CX P w) P w K mg base N qual (defScope st) (He.ga K x) cdv A outer s H E) E →
      DSs (cxOf (L2.CX P w) P w K mg base N qual (defScope st) (He.ga K x) cdv A outer s H E) E (defBody st) o) : Knows P w K mg base x (k + 1) ps (fnO ps.length N.length o) := by
  obtain ⟨fd, F⟩ := hF
  refine ⟨hm, F.kp, fd, ?_, F.bindsN hb⟩
  refine F.ok S (fun vs H Q E h => h.1) fun cdv A outer s H vs Q E hr hs => ?_
  exact body_ok (h cdv A outer s H E hr (passes_call (takes_of rfl rfl rfl rfl) fun _ _ _ _ z => z)) hs
theorem takes_cx {N : List Str} {qual : Str} {scope : Scope} {f : Addr} {cdv : Value} {A : Around} {outer : List PySem.Env} {s : Shared} {H : Hp} {E : XK} : Takes (cxOf (L2.CX P w) P w K mg base N qual scope f cdv A outer s H E) (fun cls d _ H => E cls d H) := takes_of rfl rfl rfl rfl
theorem owns_cx {N : List Str} {qual : Str} {scope : Scope} {f : Addr} {cdv : Value} {A : Around} {outer : List PySem.Env} {s : Shared} {H : Hp} {E : XK} :
    PassesOwn (model P w) (cxOf (L2.CX P w) P w K mg base N qual scope f cdv A outer s H E).A (cxOf (L2.CX P w) P w K mg base N qual scope f cdv A outer s H E).env (cxOf (L2.CX P w) P w K mg base N qual scope f cdv A outer s H E).xe := passes_of (X := cxOf (L2.CX P w) P w K mg base N qual scope f cdv A outer s H E) rfl
/-- a def of the text, called -/
theorem de_kn {X : Cx} {E : XK} {e : Expr} {es : List Expr} {pos p : Pos} {x : Str} {k : Nat} {ps : List Str} {g : List PyData → M Sl} {f : Env → M (List PyData)} (kn : Knows X.prog X.w X.K X.mg X.base x k ps g) (hr : Room k X.A) (hg : Gl X x) (hx : Passes (L2.CX X.prog X.w) X E)
    (h : DA X E (e :: es) f) (hl : ∀ ρ ds, f ρ = .ok ds → ds.length = ps.length) (hdb : (x == ("__debug__" : Str)) = false := by decide) (he : starEach (e :: es) X.env = (false, eval e X.env) :: starEach es X.env := by rfl) (hpl : (backTo pos (starEach es X.env)).any (·.1) = false := by rfl) :
    DE X E (.Call (.Name x p) (e :: es) [] pos) (eCall g f) := by
  obtain ⟨hm, kp, fd, F, b⟩ := kn
  obtain ⟨t, pt, h⟩ := h
  refine ⟨_, pe_call F hr hg hm kp b .nil hx pt hdb he hpl, fun B0 H0 B H σ ρ Q re q => ?_⟩
  refine run_a h re ?_
  rcases q.bind with ⟨ds, e1, q⟩ | ⟨x, e1, q⟩
  · refine .inl ⟨ds, e1, fun vs B1 H1 g1 r1 => ?_⟩
    rw [List.append_nil]
    exact ⟨by rw [r1.length]; exact hl ρ ds e1, ds, B1, g1.s, r1, q.grow g1⟩
  · exact .inr ⟨x, e1, q⟩
def mCall (g : List PyData → M Sl) (f : Env → M (List PyData × Env)) : Env → M (PyData × Env) := fun ρ => (f ρ).bind fun x => (g x.1).bind fun y => .ok (y.d, x.2)
theorem dm_kn {X : Cx} {E : XK} {e : Expr} {es : List Expr} {pos p : Pos} {x : Str} {k : Nat} {ps : List Str} {g : List PyData → M Sl} {f : Env → M (List PyData × Env)} (kn : Knows X.prog X.w X.K X.mg X.base x k ps g) (hr : Room k X.A) (hg : Gl X x) (hx : Passes (L2.CX X.prog X.w) X E)
    (h : DAM X E (e :: es) f) (hl : ∀ ρ ds ρ', f ρ = .ok (ds, ρ') → ds.length = ps.length) (hdb : (x == ("__debug__" : Str)) = false := by decide) (he : starEach (e :: es) X.env = (false, eval e X.env) :: starEach es X.env := by rfl) (hpl : (backTo pos (starEach es X.env)).any (·.1) = false := by rfl) :
    DM X E (.Call (.Name x p) (e :: es) [] pos) (mCall g f) := by
  obtain ⟨hm, kp, fd, F, b⟩ := kn
  obtain ⟨t, pt, h⟩ := h
  refine ⟨_, pe_call F hr hg hm kp b .nil hx pt hdb he hpl, fun B0 H0 B H σ ρ Q re q => ?_⟩
  refine h B0 H0 B H σ ρ _ re ?_
  unfold mCall at q
  cases z : f ρ with
  | stuck => rw [z] at q; exact q.elim
  | exc x => rw [z] at q; exact q
  | ok y =>
    obtain ⟨ds, ρ1⟩ := y
    rw [z] at q
    intro vs B1 H1 e1 r1 ra
    rw [List.append_nil]
    refine ⟨by rw [ra.length]; exact hl ρ ds ρ1 z, ds, B1, r1.gr.s, ra, ?_⟩
    simp only [bind_ok] at q
    cases z2 : g ds with
    | stuck => rw [z2] at q; exact q.elim
    | exc x =>
      rw [z2] at q
      exact fun H' e => q H' (r1.gr.h.trans e)
    | ok sl =>
      rw [z2] at q
      intro v B2 H2 g2 r
      obtain ⟨B3, g3, r3⟩ := r.fix g2
      exact q v B3 H2 (e1.trans g3.b) (r1.grow g3) r3
end
end Dl
/-! The data layer: what is walked; comprehensions. -/
namespace Dl
open PySem PySem.Spec PyProof.Rows L2

/-! ### enumerate(tuple) -/
section
open Sem (wp)
open AutoSeq1 (wpAny_loadPart')
theorem meets_enumerate_newT {v : Value} {o : Obj} {H : Heap → Prop} (B : Begins v o H) :
    Meets (Builtin.«enumerate.__new__» ⟨[.type "enumerate", v], []⟩) (fun _ R s => H s.heap ∧
      R (.ok (.ret (.ref (s.heap.push o).objs.size))) { s with heap := (s.heap.push o).push { cls := .type "enumerate", data := .fields #[.none, .bool false, .ref s.heap.objs.size, rawInt 0, .none, .none] } }) :=
  .of_wp fun prog w A R s h => by
    obtain ⟨hp, g, d, tk, os⟩ := s; obtain ⟨h1, h⟩ := h
    have hsub := sub_enumerate
    have q1 : ∀ {A' : Around} {E : Value → Shared → Prop} {Q : Value → Shared → Prop}, Q (.ref hp.objs.size) ⟨hp.push o, g, d, tk, os⟩ → wpAny (model prog w) A' (pyIter v) Q E ⟨hp, g, d, tk, os⟩ :=
      fun q => B.iter prog w _ _ ⟨hp, g, d, tk, os⟩ _ h1 q
    wp_walk using q1
    refine wpAny_stack_any fun st => wpAny_pure ?_
    split
    · rename_i c _ _ _ _ _
      cases (c == Value.type "enumerate")
      · wp_walk using q1
        exact ⟨_, rfl, h⟩
      · wp_walk using q1
        exact ⟨_, rfl, h⟩
    · wp_walk using q1
      exact ⟨_, rfl, h⟩
variable {prog : Program} {w : World} {A : Around} {E : Value → Shared → Prop} {s : Shared}
theorem call_enumerate_tup {v : Value} {o : Obj} {H : Heap → Prop} {Q : Value → Shared → Prop} (B : Begins v o H) (h1 : H s.heap)
    (h : ∀ h', IsEnum h' (s.heap.objs.size + 1) s.heap.objs.size 0 .none → h'.get? s.heap.objs.size = some o → h'.objs.size = s.heap.objs.size + 2 →
      (∀ b o, s.heap.get? b = some o → h'.get? b = some o) → Q (.ref (s.heap.objs.size + 1)) { s with heap := h' }) :
    wpAny (model prog w) A (call (.type "enumerate") [v]) Q E s := by
  refine callType_new F.called_enumerate (by decide) (F.typeCall_enumerate_1 _) (F.newCall_enumerate_1 _) (fun obj => F.args_object_init_2 obj _) F.entry_enumerate_new
    (meets_enumerate_newT B) ⟨h1, ?_⟩
  have hz : (s.heap.push o).objs.size = s.heap.objs.size + 1 := Heap.size_push ..
  show _ ∧ _
  rw [hz]
  have he : IsEnum ((s.heap.push o).push { cls := .type "enumerate", data := .fields #[.none, .bool false, .ref s.heap.objs.size, rawInt 0, .none, .none] }) (s.heap.objs.size + 1) s.heap.objs.size 0 .none := by
    have := Heap.get?_push_size (s.heap.push o) (o := { cls := .type "enumerate", data := .fields #[.none, .bool false, .ref s.heap.objs.size, rawInt 0, .none, .none] }) rfl
    rw [hz] at this; exact this
  refine ⟨⟨_, he, rfl⟩, h _ he (Heap.get?_push_of_some _ (Heap.get?_push_size _ B.free)) (by rw [Heap.size_push, hz]) fun b o x => Heap.get?_push_of_some _ (Heap.get?_push_of_some _ x)⟩
end
/-- the tuple at a, each item in a new pair -/
def IteT (K : PySem.W.Frag) (a : Addr) : It :=
  ⟨fun i H => ∃ (xs : List V) (x : V), SqT K H a xs ∧ xs[i]? = some x, fun i H v H' => ∃ T x, v = .ref T ∧ H T = none ∧ H' = upd H T (.tup [.int (i : Nat), x]) ∧ ∀ xs, SqT K H a xs → xs[i]? = some x, fun i H => ∃ xs : List V, SqT K H a xs ∧ xs.length ≤ i⟩
theorem istup_lt {h : Heap} {a : Addr} {its : Array Value} (p : h.IsTuple a its) : a < h.objs.size := let ⟨_, e, _⟩ := p; Heap.lt_size e
theorem turn_enumT {P : Program} {w : World} {K : PySem.W.Frag} {elts : List Expr} {kk : Nat} {tpos : Pos} (a e it : Addr) :
    Turn P w K (.Tuple elts kk tpos) (IteT K a) [e, it] e (fun i h => (∃ old, IsEnum h e it ((i : Nat) : Int) old) ∧ h.IsTupleIter it a i ∧ e ≠ it ∧ a ≠ it ∧ a ≠ e) where
  mem := by simp
  obj := fun i h st b hb => by
    obtain ⟨⟨old, he⟩, ⟨o, ho, hc, hd⟩, _⟩ := st
    have e' : b = e ∨ b = it := by simpa using hb
    rcases e' with z | z
    · rw [z]; exact ⟨_, he, fun v q => nomatch q⟩
    · rw [z]; exact ⟨o, ho, fun v q => by rw [hd] at q; cases q⟩
  keep := fun i h h' st k => let ⟨⟨old, he⟩, hi, hne⟩ := st; ⟨⟨old, k e (by simp) _ he⟩, hi.at fun o q => k it (by simp) o q, hne⟩
  item := by
    intro X hP hw hK hc i pins s σ H E I hf st hg
    subst hP hw hK
    obtain ⟨⟨old, he⟩, hit, hne, hai, hae⟩ := st
    obtain ⟨xs, x, hq, hx⟩ := hg
    obtain ⟨its, rv, p, hz⟩ := I.tuple hq
    obtain ⟨u, hu, ru⟩ := rv.get hx
    have hel : e < s.heap.objs.size := Heap.lt_size he
    have hil : it < s.heap.objs.size := by obtain ⟨_, q, _⟩ := hit; exact Heap.lt_size q
    have hlt : i < its.toArray.size := by
      rw [List.size_toArray, ← rv.length]
      exact (List.getElem?_eq_some_iff.mp hx).1
    have hh : X.A.in1.handled = none := I.ok.hd hc
    refine wpAny_pyNext_enum_itemD (Draws.tuple hh it a hai its.toArray) he ⟨hit, p⟩ hlt hne (by simp [hne, hae.symm]) fun y h' tk hy ho hit' hT hsz hk => ?_
    have ey : y = u := by
      have hu' : its.toArray[i]? = some u := by simpa using hu
      rw [hu'] at hy
      exact (Option.some.inj hy).symm
    subst ey
    refine ⟨_, rfl, wpAny_letOwnedTupleGo_enum (s := { s with heap := h', toks := tk + 1 }) ho fun h'' he' sb => ?_⟩
    have hT2 : h''.get? s.heap.objs.size = some { cls := .type "tuple", data := .seq #[.int i tk, y] } := (sb.2 _ (Nat.ne_of_gt hel)).trans hT
    have new : ObjOk X.prog X.w (upd H s.heap.objs.size (.tup [.int (i : Nat), x])) h'' s.heap.objs.size (.tup [.int (i : Nat), x]) :=
      ⟨by show 2 ≤ sizeLine; decide, [.int i tk, y], .cons ⟨_, rfl⟩ (.cons ru .nil), ⟨_, hT2, rfl, _, rfl⟩⟩
    have I1 : Inv X pins σ (upd H s.heap.objs.size (.tup [.int (i : Nat), x])) { s with heap := h'', toks := tk + 1 } :=
      I.turnedNew (ch := [e, it]) (fun b ob hb q => (sb.2 b (fun z => hb (by simp [z]))).trans (hk b ob (fun z => hb (by simp [z])) (fun z => hb (by simp [z])) q)) hf (Nat.le_refl _) new
    refine ⟨.ref s.heap.objs.size, _, I1, rfl, ⟨_, x, rfl, I.hok.fresh (Nat.le_refl _), rfl, fun ys hy => by rw [I.tuple_inj hy hq]; exact hx⟩, ⟨⟨y, ?_⟩, hit'.1.at fun o q => (sb.2 it (Ne.symm hne)).trans q, hne, hai, hae⟩, fun b hb => ?_⟩
    · have e1 : ((i + 1 : Nat) : Int) = (i : Int) + 1 := by omega
      rw [e1]; exact he'
    · have hb' : b < s.heap.objs.size := by
        have e' : b = e ∨ b = it := by simpa using hb
        rcases e' with z | z
        · rw [z]; exact hel
        · rw [z]; exact hil
      rw [upd_ne (Nat.ne_of_lt hb')]
      exact (hf b hb).1
  done := by
    intro X hP hw hK hc i pins s σ H E I hf st hg
    subst hP hw hK
    obtain ⟨⟨old, he⟩, hit, hne, hai, hae⟩ := st
    obtain ⟨xs, hq, hx⟩ := hg
    obtain ⟨its, rv, p, hz⟩ := I.tuple hq
    obtain ⟨f0, f1, f2, f3, f4, f5⟩ := hf it (by simp)
    have hl := rv.length
    have hh : X.A.in1.handled = none := I.ok.hd hc
    unfold pyNext
    have hT : s.TypeIs (.ref e) "enumerate" := ⟨_, he, rfl⟩
    refine wpAny_bind (wpAny_attempt (wpAny_callSpecial?_slot (name := Str.ofString "__next__") hT F.slot_enumerate_next
      (wpAny_call_entry F.slot_enumerate_next hT F.entry_enumerate_next ?_ (F.args_enumerate_next_1 _))))
    show wpAny _ _ (field (.ref e) 2 >>= _) _ _ _
    refine wpAny_bind (wpAny_field he rfl (x := .ref it) rfl ?_)
    refine wpAny_bind (wpAny_nextOf_tuple_end hh hit p (by simp; omega) fun h' x he' hx' => ?_)
    obtain ⟨o, ho, hcl⟩ := hx'
    refine wpAny_bind (wpAny_isInstance (T := "StopIteration") (b := true) ⟨o, ho, hcl⟩ isSubtype_stop ?_)
    exact wpAny_pure ⟨rfl, I.turned (t' := s.toks) (fun b o hb q => he' b o hb q) f0 f1 f3 f4 f5⟩
  self := fun A i s Q E st h => let ⟨⟨_, he⟩, _⟩ := st; wpAny_pyIter_enum he h
def iEnumT (K : PySem.W.Frag) (ta : TA) : TI := fun σ H R => ta σ H fun vs H1 => ∃ a, vs = [.ref a] ∧ ((∃ xs, SqL K H1 a xs ∧ R (Ite K a) H1) ∨ ∃ xs, SqT K H1 a xs ∧ R (IteT K a) H1)
theorem pi_enumT {X : Cx} {e : Expr} {ta : TA} {p pos tpos : Pos} {elts : List Expr} {kk : Nat} (hg : Gl X "enumerate") (hm : X.mg "enumerate" = none) (ha : PA X [e] ta) (hs : starEach [e] X.env = [(false, eval e X.env)] := by rfl) :
    PI X (.Tuple elts kk tpos) (.Call (.Name "enumerate" p) [e] [] pos) (iEnumT X.K ta) := by
  refine ⟨fun pins s σ H R I h => ?_⟩
  refine Call_ (ld_blt I hg hm boot_enumerate (PyProof.Rows.callWith_type1 (thn (ha.run pos pins s σ H _ I h) fun us s1 ⟨vs, H1, I1, r1, q1⟩ => ?_) hs rfl))
  obtain ⟨a, ex, hq⟩ := q1
  subst ex
  cases r1 with
  | cons r rr =>
    cases rr
    cases r
    have fp : ∀ b, b ∈ [s1.heap.objs.size + 1, s1.heap.objs.size] → FpOk X pins H1 b := fun b hb => by
      have e' : b = s1.heap.objs.size + 1 ∨ b = s1.heap.objs.size := by simpa using hb
      have hle : s1.heap.objs.size ≤ b := by
        rcases e' with z | z
        · rw [z]; exact Nat.le_add_right _ _
        · rw [z]; exact Nat.le_refl _
      exact I1.fpOk hle (I1.hok.fresh hle)
    rcases hq with ⟨xs, hq, q⟩ | ⟨xs, hq, q⟩
    · obtain ⟨its, rv, p', hz⟩ := I1.list hq
      refine call_enumerate_list p'.isList fun h' he hit hsz hk => wpAny_pyIter_enum he ?_
      have I2 : Inv X pins σ H1 { s1 with heap := h' } := I1.kept (t' := s1.toks) hk
      exact ⟨s1.heap.objs.size + 1, [s1.heap.objs.size + 1, s1.heap.objs.size], _, _, H1, rfl, I2, turn_enum a (s1.heap.objs.size + 1) s1.heap.objs.size, ⟨⟨.none, he⟩, hit, Nat.succ_ne_self _⟩, fp, q⟩
    · obtain ⟨its, rv, p', hz⟩ := I1.tuple hq
      have hlt : a < s1.heap.objs.size := p'.lt
      refine call_enumerate_tup (begins_tuple a its.toArray) p' fun h' he hit hsz hk => wpAny_pyIter_enum he ?_
      have I2 : Inv X pins σ H1 { s1 with heap := h' } := I1.kept (t' := s1.toks) hk
      exact ⟨s1.heap.objs.size + 1, [s1.heap.objs.size + 1, s1.heap.objs.size], _, _, H1, rfl, I2, turn_enumT a (s1.heap.objs.size + 1) s1.heap.objs.size, ⟨⟨.none, he⟩, ⟨_, hit, rfl, rfl⟩, Nat.succ_ne_self _, Nat.ne_of_lt hlt, Nat.ne_of_lt (Nat.lt_succ_of_lt hlt)⟩, fp, q⟩
end Dl
namespace Dl
open PySem PySem.Spec PyProof.Rows L2 RZ RT

section
variable {X : Cx} {E : XK} {tg e e2 : Expr} {fa fb : Env → M Sl} {pos : Pos}
/-! ### a sequence's or a text's walk -/
def iAny (K : PySem.W.Frag) (tl : TE) : TI := fun σ H R => tl σ H fun x H1 => (∃ a, x = .ref a ∧ ((∃ xs, SqL K H1 a xs ∧ R (Itl K a) H1) ∨ ∃ xs, SqT K H1 a xs ∧ R (Itt K a) H1)) ∨ ∃ z, x = .str z ∧ R (Its z) H1
theorem pi_any {l : Expr} {tl : TE} (hl : PE X l tl) : PI X tg l (iAny X.K tl) := by
  refine ⟨fun pins s σ H R I h => ?_⟩
  refine thn (hl.run pins s σ H _ I h) fun v s1 ⟨x, H1, I1, r1, q1⟩ => ?_
  rcases q1 with ⟨a, e, q1⟩ | ⟨z, e, q⟩
  · subst e
    cases r1
    have fp : ∀ b, b ∈ [s1.heap.objs.size] → FpOk X pins H1 b := fun b hb => by
      have e : b = s1.heap.objs.size := by simpa using hb
      subst e
      exact I1.fpOk (Nat.le_refl _) (I1.hok.fresh (Nat.le_refl _))
    rcases q1 with ⟨xs, hq, q⟩ | ⟨xs, hq, q⟩
    · obtain ⟨its, rv, p, hz⟩ := I1.list hq
      refine wpAny_pyIter_list p.isList ?_
      exact ⟨s1.heap.objs.size, [s1.heap.objs.size], _, _, H1, rfl, I1.kept (t' := s1.toks) fun b o e => Heap.get?_push_of_some _ e, turn_list a _, ⟨_, Heap.get?_push_size _ rfl, rfl, rfl⟩, fp, q⟩
    · obtain ⟨its, rv, p, hz⟩ := I1.tuple hq
      refine wpAny_pyIter_tuple (show s1.heap.IsTuple a its.toArray from p) ?_
      exact ⟨s1.heap.objs.size, [s1.heap.objs.size], _, _, H1, rfl, I1.kept (t' := s1.toks) fun b o e => Heap.get?_push_of_some _ e, turn_tuple a _, ⟨_, Heap.get?_push_size _ rfl, rfl, rfl⟩, fp, q⟩
  · subst e
    obtain ⟨t, rfl⟩ := r1
    cases ha : z.cps.all (· < 128)
    · exact wpAny_pyIter_wide ha (pi_one (tk := s1.toks) I1 _ (turn_str _ z t "str_iterator" (.inr rfl)) ⟨_, Heap.get?_push_size _ rfl, rfl, rfl⟩ q)
    · exact wpAny_pyIter_ascii ha (pi_one (tk := s1.toks) I1 _ (turn_str _ z t "str_ascii_iterator" (.inl rfl)) ⟨_, Heap.get?_push_size _ rfl, rfl, rfl⟩ q)
/-! ### walks by data -/
variable {K : PySem.W.Frag} {B H : Hp}
theorem wlk_at {J : It} {G : Hp → Prop} {xs : List V} {ds : List PyData} (w : Walk J xs.length G (YAt xs)) (r : RA K B xs ds) (hG : ∀ B1 H1, Ex B B1 → Ex B1 H1 → G H1) : Wlk K B J ds := by
  refine ⟨G, YAt xs, by rw [← r.length]; exact w, hG, fun i B1 H1 v H2 _ e1 e2 y => ?_⟩
  obtain ⟨rfl, h⟩ := y
  obtain ⟨d, h1, h2⟩ := r.getV h
  exact ⟨B1, d, h1, .refl e2, h2.mono e1⟩
def signs (z : Str) : List PyData := z.cps.toList.map fun c => .str ⟨#[c]⟩
theorem wlk_str (z : Str) : Wlk K B (Its z) (signs z) := by
  refine ⟨_, _, by have w := walk_str (z := z); rw [show (signs z).length = z.cps.size by simp [signs]]; exact w, fun _ _ _ _ => trivial, fun i B1 H1 v H2 _ e1 e2 y => ?_⟩
  obtain ⟨rfl, c, h, rfl⟩ := y
  refine ⟨B1, .str ⟨#[c]⟩, ?_, .refl e2, .str _⟩
  unfold signs
  rw [List.getElem?_map, Array.getElem?_toList, h]
  rfl
def rng (lo : Int) (n : Nat) : List PyData := (List.range n).map fun (i : Nat) => PyData.int (lo + (i : Int))
theorem wlk_rng (lo : Int) (n : Nat) : Wlk K B (Itr lo n) (rng lo n) := by
  refine ⟨_, _, by have w := walk_range (lo := lo) (n := n); rw [show (rng lo n).length = n by simp [rng]]; exact w, fun _ _ _ _ => trivial, fun i B1 H1 v H2 hi e1 e2 y => ?_⟩
  obtain ⟨rfl, rfl⟩ := y
  have hi : i < n := by simpa [rng] using hi
  exact ⟨B1, .int (lo + (i : Int)), by simp [rng, hi], .refl e2, .int _⟩
/-- the items a value has -/
def itemsD : PyData → M (List PyData)
  | .list ds => .ok ds
  | .tuple ds => .ok ds
  | .str z => .ok (signs z)
  | _ => .stuck
def iOf (f : Env → M Sl) : Env → M (List PyData) := fun ρ => (f ρ).bind fun x => itemsD x.d
theorem di_any (h : DE X E e fa) : DI X E tg e (iOf fa) := by
  obtain ⟨t, p, h⟩ := h
  refine ⟨_, pi_any p, fun B0 H0 B H σ ρ Q re q => ?_⟩
  refine run_e h re ?_
  rcases q.bind with ⟨x, e1, q⟩ | ⟨x, e1, q⟩
  · refine .inl ⟨x, e1, fun v B1 H1 g1 r1 => ?_⟩
    have q := IPost.grow g1 q
    cases z : x.d with
    | list ds =>
      rw [z] at q r1
      cases r1 with
      | lst hl ra => exact .inl ⟨_, rfl, .inl ⟨_, .of (g1.s _ _ hl), q _ B1 H1 (.refl g1.s) (wlk_at walk_list ra fun B2 H2 e1 e2 => .of (e2 _ _ (e1 _ _ hl)))⟩⟩
    | tuple ds =>
      rw [z] at q r1
      cases r1 with
      | tup hl ra => exact .inl ⟨_, rfl, .inr ⟨_, ex_u g1.s hl, q _ B1 H1 (.refl g1.s) (wlk_at walk_tup ra fun B2 H2 e1 e2 => ex_t e2 (ex_u e1 hl))⟩⟩
    | str w =>
      rw [z] at q r1
      cases r1
      exact .inr ⟨w, rfl, q _ B1 H1 (.refl g1.s) (wlk_str w)⟩
    | none => rw [z] at q; exact q.elim
    | bool b => rw [z] at q; exact q.elim
    | int b => rw [z] at q; exact q.elim
    | dict b => rw [z] at q; exact q.elim
  · exact .inr ⟨x, e1, q⟩
/-- new pairs of the i-th of two lists -/
theorem wlk_pair {J : It} {n : Nat} {G : Hp → Prop} {f g : Nat → Option V} {ds : List PyData} (w : Walk J n G (YPair f g)) (hn : ds.length = n) (hG : ∀ B1 H1, Ex B B1 → Ex B1 H1 → G H1)
    (hr : ∀ (i : Nat) x y, i < n → f i = some x → g i = some y → ∃ d d', ds[i]? = some (.tuple [d, d']) ∧ R K B x d ∧ R K B y d') : Wlk K B J ds := by
  refine ⟨G, _, by rw [hn]; exact w, hG, fun i B1 H1 v H2 hi e1 e2 y => ?_⟩
  obtain ⟨T, x, z, rfl, hT, rfl, h1, h2⟩ := y
  obtain ⟨d, d', h3, r1, r2⟩ := hr i x z (by rw [← hn]; exact hi) h1 h2
  have ne := Ex.new (o := HO.tup [x, z]) (e2.back hT)
  exact ⟨_, _, h3, .new e2 hT, .tup upd_same (.cons ((r1.mono e1).mono ne) (.cons ((r2.mono e1).mono ne) .nil))⟩
def enumD (ds : List PyData) : List PyData := ds.mapIdx fun i d => .tuple [.int (i : Nat), d]
theorem wlk_enum {a : Addr} {xs : List V} {ds : List PyData} {J : It} {G : Hp → Prop} (w : Walk J xs.length G (YPair (fun i => some (.int (i : Nat))) (fun i => xs[i]?))) (r : RA K B xs ds) (hG : ∀ B1 H1, Ex B B1 → Ex B1 H1 → G H1) : Wlk K B J (enumD ds) := by
  refine wlk_pair w (by simp [enumD, r.length]) hG fun i x y hi h1 h2 => ?_
  cases h1
  obtain ⟨d, h3, r3⟩ := r.getV h2
  exact ⟨.int (i : Nat), d, by simp [enumD, h3], .int _, r3⟩
theorem walk_enumT {a : Addr} {xs : List V} : Walk (IteT K a) xs.length (fun H => SqT K H a xs) (YPair (fun i => some (.int (i : Nat))) (fun i => xs[i]?)) := by
  refine ⟨fun i _ hi q => ⟨xs, xs[i], q, by simp [hi]⟩, fun _ q => ⟨xs, q, Nat.le_refl _⟩, fun i H v H' _ q y => ?_⟩
  obtain ⟨T, x, h1, h2, h3, h4⟩ := y
  exact ⟨T, .int (i : Nat), x, h1, h2, h3, rfl, h4 xs q⟩
theorem walk_zipT {a b : Addr} {xs ys : List V} {n : Nat} (hn : n = min xs.length ys.length) : Walk (ItzT K a b) n (fun H => SqT K H a xs ∧ SqT K H b ys) (YPair (fun i => xs[i]?) (fun i => ys[i]?)) := by
  subst hn
  refine ⟨fun i _ hi q => ?_, fun _ q => ⟨xs, ys, q.1, q.2, by omega⟩, fun i H v H' _ q y => ?_⟩
  · have h1 : i < xs.length := by omega
    have h2 : i < ys.length := by omega
    exact ⟨xs, ys, xs[i], ys[i], q.1, q.2, by simp [h1], by simp [h2]⟩
  · obtain ⟨T, x, z, h1, h2, h3, h4, h5⟩ := y
    exact ⟨T, x, z, h1, h2, h3, h4 xs q.1, h5 ys q.2⟩
def zipD (xs ys : List PyData) : List PyData := List.zipWith (fun a b => .tuple [a, b]) xs ys
theorem wlk_zip {xs ys : List V} {ds es : List PyData} {n : Nat} {J : It} {G : Hp → Prop} (hn : n = min xs.length ys.length) (w : Walk J n G (YPair (fun i => xs[i]?) (fun i => ys[i]?))) (r : RA K B xs ds) (q : RA K B ys es) (hG : ∀ B1 H1, Ex B B1 → Ex B1 H1 → G H1) : Wlk K B J (zipD ds es) := by
  refine wlk_pair w (by simp [zipD, hn, r.length, q.length]) hG fun i x y hi h1 h2 => ?_
  obtain ⟨d, h3, r3⟩ := r.getV h1
  obtain ⟨d', h4, r4⟩ := q.getV h2
  exact ⟨d, d', by simp [zipD, List.getElem?_zipWith, h3, h4], r3, r4⟩
/-- enumerate -/
def enumOf (ds : List PyData) : M (List PyData) := match ds with
  | [.list l] => .ok (enumD l)
  | [.tuple l] => .ok (enumD l)
  | _ => .stuck
def iAr (f : Env → M (List PyData)) (g : List PyData → M (List PyData)) : Env → M (List PyData) := fun ρ => (f ρ).bind g
theorem di_enum {fs : Env → M (List PyData)} {p tpos : Pos} {elts : List Expr} {kk : Nat} (hg : Gl X "enumerate") (hm : X.mg "enumerate" = none) (h : DA X E [e] fs) (hs : starEach [e] X.env = [(false, eval e X.env)] := by rfl) :
    DI X E (.Tuple elts kk tpos) (.Call (.Name "enumerate" p) [e] [] pos) (iAr fs enumOf) := by
  obtain ⟨t, pt, h⟩ := h
  refine ⟨_, pi_enumT hg hm pt hs, fun B0 H0 B H σ ρ Q re q => ?_⟩
  refine run_a h re ?_
  rcases q.bind with ⟨ds, e1, q⟩ | ⟨x, e1, q⟩
  · refine .inl ⟨ds, e1, fun vs B1 H1 g1 r1 => ?_⟩
    have q := IPost.grow g1 q
    unfold enumOf at q
    split at q
    · rename_i l
      cases r1 with
      | cons r1 r2 =>
        cases r2
        cases r1 with
        | lst hl ra => exact ⟨_, rfl, .inl ⟨_, .of (g1.s _ _ hl), q _ B1 H1 (.refl g1.s) (wlk_enum (a := 0) walk_enum ra fun B2 H2 e1 e2 => .of (e2 _ _ (e1 _ _ hl)))⟩⟩
    · rename_i l
      cases r1 with
      | cons r1 r2 =>
        cases r2
        cases r1 with
        | tup hl ra => exact ⟨_, rfl, .inr ⟨_, ex_u g1.s hl, q _ B1 H1 (.refl g1.s) (wlk_enum (a := 0) walk_enumT ra fun B2 H2 e1 e2 => ex_t e2 (ex_u e1 hl))⟩⟩
    · exact q.elim
  · exact .inr ⟨x, e1, q⟩
def zipOf (ds : List PyData) : M (List PyData) := match ds with
  | [.list a, .list b] => .ok (zipD a b)
  | [.tuple a, .tuple b] => .ok (zipD a b)
  | _ => .stuck
theorem di_zip {fs : Env → M (List PyData)} {p tpos : Pos} {elts : List Expr} {kk : Nat} (hg : Gl X "zip") (hm : X.mg "zip" = none) (h : DA X E [e, e2] fs)
    (hs : starEach [e, e2] X.env = (false, eval e X.env) :: starEach [e2] X.env := by rfl) (hpl : (backTo pos (starEach [e2] X.env)).any (·.1) = false := by rfl) :
    DI X E (.Tuple elts kk tpos) (.Call (.Name "zip" p) [e, e2] [] pos) (iAr fs zipOf) := by
  obtain ⟨t, pt, h⟩ := h
  refine ⟨_, pi_zipA hg hm pt hs hpl, fun B0 H0 B H σ ρ Q re q => ?_⟩
  refine run_a h re ?_
  rcases q.bind with ⟨ds, e1, q⟩ | ⟨x, e1, q⟩
  · refine .inl ⟨ds, e1, fun vs B1 H1 g1 r1 => ?_⟩
    have q := IPost.grow g1 q
    unfold zipOf at q
    split at q
    · cases r1 with
      | cons r1 r2 =>
        cases r2 with
        | cons r2 r3 =>
          cases r3
          cases r1 with
          | lst hl ra =>
            cases r2 with
            | lst hm rb => exact ⟨_, _, _, _, rfl, .inl ⟨.of (g1.s _ _ hl), .of (g1.s _ _ hm), q _ B1 H1 (.refl g1.s) (wlk_zip rfl (walk_zip rfl) ra rb fun B2 H2 e1 e2 => ⟨.of (e2 _ _ (e1 _ _ hl)), .of (e2 _ _ (e1 _ _ hm))⟩)⟩⟩
    · cases r1 with
      | cons r1 r2 =>
        cases r2 with
        | cons r2 r3 =>
          cases r3
          cases r1 with
          | tup hl ra =>
            cases r2 with
            | tup hm rb => exact ⟨_, _, _, _, rfl, .inr ⟨ex_u g1.s hl, ex_u g1.s hm, q _ B1 H1 (.refl g1.s) (wlk_zip rfl (walk_zipT rfl) ra rb fun B2 H2 e1 e2 => ⟨ex_t e2 (ex_u e1 hl), ex_t e2 (ex_u e1 hm)⟩)⟩⟩
    · exact q.elim
  · exact .inr ⟨x, e1, q⟩
/-- range -/
def rngOk (i : Int) : Bool := decide (i.natAbs ≤ 4611686018427387903)
def rng1Of (ds : List PyData) : M (List PyData) := match ds with
  | [.int j] => if rngOk j = true then .ok (rng 0 j.toNat) else .stuck
  | _ => .stuck
def rng2Of (ds : List PyData) : M (List PyData) := match ds with
  | [.int i, .int j] => if rngOk i = true ∧ rngOk j = true then .ok (rng i (j - i).toNat) else .stuck
  | _ => .stuck
theorem rngOk_ok {i : Int} (h : rngOk i = true) : -(2 ^ 62) ≤ i ∧ i < 2 ^ 62 := by
  have := of_decide_eq_true h
  omega
theorem di_rng1 {fs : Env → M (List PyData)} {p : Pos} (hg : Gl X "range") (hm : X.mg "range" = none) (h : DA X E [e] fs) (hs : starEach [e] X.env = [(false, eval e X.env)] := by rfl) : DI X E tg (.Call (.Name "range" p) [e] [] pos) (iAr fs rng1Of) := by
  obtain ⟨t, pt, h⟩ := h
  refine ⟨_, pi_range1 hg hm pt hs, fun B0 H0 B H σ ρ Q re q => ?_⟩
  refine run_a h re ?_
  rcases q.bind with ⟨ds, e1, q⟩ | ⟨x, e1, q⟩
  · refine .inl ⟨ds, e1, fun vs B1 H1 g1 r1 => ?_⟩
    have q := IPost.grow g1 q
    unfold rng1Of at q
    split at q
    · split at q
      · rename_i hb
        cases r1 with
        | cons r1 r2 =>
          cases r2
          cases r1
          have k := rngOk_ok hb
          exact ⟨_, rfl, k.1, k.2, q _ B1 H1 (.refl g1.s) (wlk_rng 0 _)⟩
      · exact q.elim
    · exact q.elim
  · exact .inr ⟨x, e1, q⟩
theorem di_rng2 {fs : Env → M (List PyData)} {p : Pos} (hg : Gl X "range") (hm : X.mg "range" = none) (h : DA X E [e, e2] fs) (hs : starEach [e, e2] X.env = [(false, eval e X.env), (false, eval e2 X.env)] := by rfl) (hs2 : starEach [e2] X.env = [(false, eval e2 X.env)] := by rfl) :
    DI X E tg (.Call (.Name "range" p) [e, e2] [] pos) (iAr fs rng2Of) := by
  obtain ⟨t, pt, h⟩ := h
  refine ⟨_, pi_range2 hg hm pt hs hs2, fun B0 H0 B H σ ρ Q re q => ?_⟩
  refine run_a h re ?_
  rcases q.bind with ⟨ds, e1, q⟩ | ⟨x, e1, q⟩
  · refine .inl ⟨ds, e1, fun vs B1 H1 g1 r1 => ?_⟩
    have q := IPost.grow g1 q
    unfold rng2Of at q
    split at q
    · split at q
      · rename_i hb
        cases r1 with
        | cons r1 r2 =>
          cases r2 with
          | cons r2 r3 =>
            cases r3
            cases r1
            cases r2
            have k := rngOk_ok hb.1
            have k2 := rngOk_ok hb.2
            exact ⟨_, _, rfl, ⟨k.1, k.2, k2.1, k2.2⟩, q _ B1 H1 (.refl g1.s) (wlk_rng _ _)⟩
      · exact q.elim
    · exact q.elim
  · exact .inr ⟨x, e1, q⟩
/-- reversed -/
def revOf (d : PyData) : M (List PyData) := match d with
  | .list l => .ok l.reverse
  | .tuple l => .ok l.reverse
  | _ => .stuck
theorem wlk_rev {J : It} {G : Hp → Prop} {xs : List V} {ds : List PyData} (w : Walk J xs.length G (fun i H x H' => H' = H ∧ xs[xs.length - 1 - i]? = some x)) (r : RA K B xs ds) (hG : ∀ B1 H1, Ex B B1 → Ex B1 H1 → G H1) : Wlk K B J ds.reverse := by
  refine ⟨G, _, by rw [List.length_reverse, ← r.length]; exact w, hG, fun i B1 H1 v H2 hi e1 e2 y => ?_⟩
  obtain ⟨rfl, h⟩ := y
  obtain ⟨d, h1, h2⟩ := r.getV h
  rw [List.length_reverse] at hi
  exact ⟨B1, d, by rw [List.getElem?_reverse hi, ← r.length]; exact h1, .refl e2, h2.mono e1⟩
theorem walk_revT {a : Addr} {xs : List V} : Walk (ItvT K a xs.length) xs.length (fun H => SqT K H a xs) (fun i H x H' => H' = H ∧ xs[xs.length - 1 - i]? = some x) :=
  ⟨fun i _ hi q => ⟨hi, xs, xs[xs.length - 1 - i]'(by omega), q, by simp [show xs.length - 1 - i < xs.length by omega]⟩, fun _ _ => Nat.le_refl _, fun _ _ _ _ _ q y => ⟨y.1, y.2 xs q⟩⟩
theorem di_rev {p : Pos} (hg : Gl X "reversed") (hm : X.mg "reversed" = none) (h : DE X E e fa) (hs : starEach [e] X.env = (false, eval e X.env) :: starEach [] X.env := by rfl) : DI X E tg (.Call (.Name "reversed" p) [e] [] pos) (fun ρ => (fa ρ).bind fun x => revOf x.d) := by
  obtain ⟨t, pt, h⟩ := h
  refine ⟨_, pi_revA hg hm pt hs, fun B0 H0 B H σ ρ Q re q => ?_⟩
  refine run_e h re ?_
  rcases q.bind with ⟨x, e1, q⟩ | ⟨x, e1, q⟩
  · refine .inl ⟨x, e1, fun v B1 H1 g1 r1 => ?_⟩
    have q := IPost.grow g1 q
    cases z : x.d with
    | list ds =>
      rw [z] at q r1
      cases r1 with
      | lst hl ra => exact ⟨_, _, rfl, .inl ⟨.of (g1.s _ _ hl), q _ B1 H1 (.refl g1.s) (wlk_rev walk_rev ra fun B2 H2 e1 e2 => .of (e2 _ _ (e1 _ _ hl)))⟩⟩
    | tuple ds =>
      rw [z] at q r1
      cases r1 with
      | tup hl ra => exact ⟨_, _, rfl, .inr ⟨ex_u g1.s hl, q _ B1 H1 (.refl g1.s) (wlk_rev walk_revT ra fun B2 H2 e1 e2 => ex_t e2 (ex_u e1 hl))⟩⟩
    | str w => rw [z] at q; exact q.elim
    | none => rw [z] at q; exact q.elim
    | bool b => rw [z] at q; exact q.elim
    | int b => rw [z] at q; exact q.elim
    | dict b => rw [z] at q; exact q.elim
  · exact .inr ⟨x, e1, q⟩

/-! ### comprehensions -/
def noX {α : Type} (r : M α) : M α := match r with
  | .exc _ => .stuck
  | r => r
def wipeE (ρ : Env) : List Nat → Env
  | [] => ρ
  | v :: vs => (wipeE ρ vs).set v none
theorem ER.wipe {B0 H0 : Hp} {σ : L2.St} {ρ : Env} (r : ER K B0 H0 B H σ ρ) : ∀ vs : List Nat, ER K B0 H0 B H (wipe σ vs) (wipeE ρ vs)
  | [] => r
  | _ :: vs => (ER.wipe r vs).drop
def lcF (bd : PyData → Env → M Env) (tt : Env → M Bool) (fe : Env → M Sl) : List PyData → Env → M (List PyData)
  | [], _ => .ok []
  | d :: ds, ρ => (noX (bd d ρ)).bind fun ρ1 => (noX (tt ρ1)).bind fun b => if b = true then (noX (fe ρ1)).bind fun y => (lcF bd tt fe ds ρ).bind fun ys => .ok (y.d :: ys) else lcF bd tt fe ds ρ
def eLc (fi : Env → M (List PyData)) (own : List Nat) (bd : PyData → Env → M Env) (tt : Env → M Bool) (fe : Env → M Sl) : Env → M Sl := fun ρ => (fi ρ).bind fun ds => (lcF bd tt fe ds (wipeE ρ own)).bind fun ys => if big ys.length = true then .ok (.own (.list ys)) else .stuck
theorem lcF_ne {bd : PyData → Env → M Env} {tt : Env → M Bool} {fe : Env → M Sl} : ∀ (ds : List PyData) (ρ : Env) (x : Str), lcF bd tt fe ds ρ ≠ .exc x
  | [], _, _, h => by cases h
  | d :: ds, ρ, x, h => by
    unfold lcF at h
    cases z1 : bd d ρ with
    | stuck => rw [z1] at h; cases h
    | exc y => rw [z1] at h; cases h
    | ok ρ1 =>
      rw [z1] at h
      simp only [noX, bind_ok] at h
      cases z2 : tt ρ1 with
      | stuck => rw [z2] at h; cases h
      | exc y => rw [z2] at h; cases h
      | ok b =>
        rw [z2] at h
        simp only [bind_ok] at h
        split at h
        · cases z3 : fe ρ1 with
          | stuck => rw [z3] at h; cases h
          | exc y => rw [z3] at h; cases h
          | ok y =>
            rw [z3] at h
            simp only [bind_ok] at h
            cases z4 : lcF bd tt fe ds ρ with
            | stuck => rw [z4] at h; cases h
            | exc y => exact lcF_ne ds ρ y z4
            | ok ys => rw [z4] at h; cases h
        · exact lcF_ne ds ρ x h
def DTs (X : Cx) (E : XK) (ifs : List Expr) (f : Env → M Bool) : Prop := ∃ t, PTs X ifs t ∧ ∀ B0 H0 B H σ ρ Q, ER X.K B0 H0 B H σ ρ → TPost X.K E B H (f ρ) Q → t σ H Q
theorem dts_nil : DTs X E [] (fun _ => .ok true) := ⟨_, pts_nil, fun B0 H0 B H σ ρ Q re q => q B H (.refl re.gr.s)⟩
theorem dts_one {c : Expr} {f : Env → M Bool} (h : DT X E c f) : DTs X E [c] f := let ⟨_, p, h⟩ := h; ⟨_, pts_one p, h⟩
theorem wipe_wipe {σ : L2.St} (vs : List Nat) : wipe (wipe σ vs) vs = wipe σ vs := by
  refine List.ext_getElem? fun j => ?_
  by_cases hj : j ∈ vs
  · rcases wipe_none (σ := σ) hj with e | e
    · rcases wipe_none (σ := wipe σ vs) hj with e2 | e2
      · rw [e, e2]
      · rw [wipe_length] at e2
        rw [List.getElem?_eq_none (by rw [wipe_length]; exact e2), List.getElem?_eq_none e2]
    · rw [List.getElem?_eq_none (by rw [wipe_length]; exact e), List.getElem?_eq_none e]
  · rw [wipe_not hj]
/-- the reading of a comprehension by data -/
theorem run_lc {X : Cx} {wi : TI} {g : TG} {tt : TT} {te : TE} {fi : Env → M (List PyData)} {own sl : List Nat} {bd : PyData → Env → M Env} {ft : Env → M Bool} {fe : Env → M Sl} (hsl : ∀ i ∈ sl, i ∈ own)
    (hi : ∀ B0 H0 B H σ ρ Q, ER X.K B0 H0 B H σ ρ → IPost X.K E B H (fi ρ) Q → wi σ H Q)
    (hg : ∀ B0 H0 B H σ ρ v d ρ' (Q : L2.St → Hp → Prop), ER X.K B0 H0 B H σ ρ → R X.K B v d → bd d ρ = .ok ρ' → (∀ σ', ER X.K B0 H0 B H σ' ρ' → OnlyAt sl σ σ' → Q σ' H) → g v σ H Q)
    (ht : ∀ B0 H0 B H σ ρ Q, ER X.K B0 H0 B H σ ρ → TPost X.K E0 B H (ft ρ) Q → tt σ H Q) (he : ∀ B0 H0 B H σ ρ Q, ER X.K B0 H0 B H σ ρ → EPost X.K E0 B H (fe ρ) Q → te σ H Q) :
    ∀ B0 H0 B H σ ρ Q, ER X.K B0 H0 B H σ ρ → EPost X.K E B H (eLc fi own bd ft fe ρ) Q → tLc wi g tt te own σ H Q := by
  intro B0 H0 B H σ ρ Q re q
  refine hi B0 H0 B H σ ρ _ re ?_
  rcases q.bind with ⟨ds, e1, q⟩ | ⟨x, e1, q⟩
  · rw [e1]
    intro J B1 H1 g1 w
    have q := EPost.grow g1 q
    rcases q.bind with ⟨ys, e2, q⟩ | ⟨x, e2, _⟩
    · split at q
      · rename_i hbig
        obtain ⟨G, Y, w, hG, hY⟩ := w
        intro D hD
        have re1 := re.grow g1
        refine lc_it w (fun i H' => ∃ B' acc dn rest, Gr B1 H1 B' H' ∧ B' D = none ∧ H' D = some (.lst acc) ∧ RA X.K B' acc dn ∧ lcF bd ft fe (ds.drop i) (wipeE ρ own) = .ok rest ∧ dn ++ rest = ys)
          ⟨B1, [], [], ys, .own g1.s hD, g1.s.back hD, upd_same, .nil, e2, rfl⟩ (fun i H' _ ⟨B', _, _, _, g', _⟩ => hG B' H' g'.b g'.s) ?_ ?_
        · rintro i v H2 H3 hlt ⟨B', acc, dn, rs, g', nD, hacc, ra, hrest, hy⟩ y
          obtain ⟨B2, d, hd, g2, rv⟩ := hY i B' H2 v H3 hlt g'.b g'.s y
          have hdr : ds.drop i = d :: ds.drop (i + 1) := by
            have hh : i < ds.length := hlt
            rw [List.getElem?_eq_getElem hh] at hd
            cases hd
            exact List.drop_eq_getElem_cons hh
          rw [hdr] at hrest
          unfold lcF at hrest
          have g12 := g'.trans g2
          cases z1 : bd d (wipeE ρ own) with
          | stuck => rw [z1] at hrest; cases hrest
          | exc x => rw [z1] at hrest; cases hrest
          | ok ρ1 =>
            rw [z1] at hrest
            simp only [noX, bind_ok] at hrest
            refine hg B0 H0 B2 H3 (wipe σ own) (wipeE ρ own) v d ρ1 _ ((re1.grow g12).wipe own) rv z1 fun σ2 re2 only => ⟨(only own hsl).trans (wipe_wipe own), ?_⟩
            refine ht B0 H0 B2 H3 σ2 ρ1 _ re2 ?_
            cases z2 : ft ρ1 with
            | stuck => rw [z2] at hrest; cases hrest
            | exc x => rw [z2] at hrest; cases hrest
            | ok b =>
              rw [z2] at hrest
              simp only [bind_ok] at hrest
              intro B3 H4 g3
              have g13 := g12.trans g3
              have n3 : B3 D = none := (g2.trans g3).l D _ hacc nD
              have a3 : H4 D = some (.lst acc) := (g2.trans g3).h D _ hacc
              cases b with
              | false =>
                rw [if_neg Bool.false_ne_true] at hrest ⊢
                exact ⟨B3, acc, dn, rs, g13, n3, a3, ra.mono (g2.trans g3).b, hrest, hy⟩
              | true =>
                rw [if_pos rfl] at hrest ⊢
                refine he B0 H0 B3 H4 σ2 ρ1 _ (re2.grow g3) ?_
                cases z3 : fe ρ1 with
                | stuck => rw [z3] at hrest; cases hrest
                | exc x => rw [z3] at hrest; cases hrest
                | ok yv =>
                  rw [z3] at hrest
                  simp only [bind_ok] at hrest
                  cases z4 : lcF bd ft fe (ds.drop (i + 1)) (wipeE ρ own) with
                  | stuck => rw [z4] at hrest; cases hrest
                  | exc x => rw [z4] at hrest; cases hrest
                  | ok rs' =>
                    rw [z4] at hrest
                    cases hrest
                    intro u B4 H5 g4 r4
                    obtain ⟨B5, g5, r5⟩ := r4.fix g4
                    have g15 := g13.trans g5
                    have n5 : B5 D = none := g5.l D _ a3 n3
                    have a5 : H5 D = some (.lst acc) := g5.h D _ a3
                    have hlen : acc.length < sizeLine := by
                      have k := big_ok hbig
                      have k2 : dn.length + (rs'.length + 1) = ys.length := by rw [← hy, List.length_append, List.length_cons]
                      rw [ra.length]
                      omega
                    refine ⟨acc, a5, hlen, B5, acc ++ [u], dn ++ [yv.d], rs', ⟨g15.b, fun a o h => ?_, fun a o h => ?_, g15.l⟩, n5, upd_same, (ra.mono ((g2.trans g3).b.trans g5.b)).snoc r5, rfl, by rw [List.append_assoc]; exact hy⟩
                    · rw [upd_ne (ne_of_none h hD)]
                      exact g15.h a o h
                    · rw [upd_ne (ne_of_none h n5)]
                      exact g15.s a o h
        · rintro H2 ⟨B', acc, dn, rs, g', nD, hacc, ra, hrest, hy⟩
          rw [List.drop_length] at hrest
          cases hrest
          rw [List.append_nil] at hy
          subst hy
          exact q _ B' H2 g' ⟨D, _, rfl, hD, nD, hacc, .lst ra⟩
      · exact q.elim
    · exact absurd e2 (lcF_ne _ _ _)
  · rw [e1]
    exact q
/-! the readings that need no more than the data -/
def rdE (K : PySem.W.Frag) (E : XK) (f : Env → M Sl) : TE := fun σ H Q => ∃ B0 H0 B ρ, ER K B0 H0 B H σ ρ ∧ EPost K E B H (f ρ) Q
def rdT (K : PySem.W.Frag) (E : XK) (f : Env → M Bool) : TT := fun σ H Q => ∃ B0 H0 B ρ, ER K B0 H0 B H σ ρ ∧ TPost K E B H (f ρ) Q
def rdG (K : PySem.W.Frag) (sl : List Nat) (bd : PyData → Env → M Env) : TG := fun v σ H Q => ∃ B0 H0 B ρ d ρ', ER K B0 H0 B H σ ρ ∧ R K B v d ∧ bd d ρ = .ok ρ' ∧ ∀ σ', ER K B0 H0 B H σ' ρ' → OnlyAt sl σ σ' → Q σ' H
theorem DE.pe {X : Cx} (h : DE X E e fa) : PE X e (rdE X.K E fa) := by
  obtain ⟨t, p, h⟩ := h
  exact ⟨fun pins s σ H Q I ⟨B0, H0, B, ρ, re, q⟩ => p.run pins s σ H Q I (h B0 H0 B H σ ρ Q re q)⟩
theorem DTs.pts {X : Cx} {ifs : List Expr} {ft : Env → M Bool} (h : DTs X E ifs ft) : PTs X ifs (rdT X.K E ft) := by
  obtain ⟨t, p, h⟩ := h
  exact ⟨fun pins s σ H Q I ⟨B0, H0, B, ρ, re, q⟩ => p.run pins s σ H Q I (h B0 H0 B H σ ρ Q re q)⟩
theorem DG.pg {X : Cx} {sl : List Nat} {bd : PyData → Env → M Env} (h : DG X tg sl bd) : PG X tg (rdG X.K sl bd) := by
  obtain ⟨t, p, h⟩ := h
  exact ⟨fun pins s σ H v u Q I r ⟨B0, H0, B, ρ, d, ρ', re, rv, e, q⟩ => p.run pins s σ H v u Q I r (h B0 H0 B H σ ρ v d ρ' Q re rv e q)⟩
variable {elt iter : Expr} {ifs : List Expr} {scope : Scope} {own : List (Str × Nat)} {sl : List Nat} {bd : PyData → Env → M Env} {ft : Env → M Bool} {fe : Env → M Sl} {fi : Env → M (List PyData)}
theorem de_lc (hc : X.calm = true) (hN : X.N.Nodup) (hi : DI X E tg iter fi) (ok : BlkOk X.N X.env.scope scope own) (hsl : ∀ i ∈ sl, i ∈ own.map (·.2))
    (hg : ∀ (s : Shared) (H : Hp) (C : Addr) (cl : List (Str × Addr)) (fp : List Addr), DG (X.blk s H scope (compEnvC scope cl C X.env) fp) tg sl bd)
    (ht : ∀ (s : Shared) (H : Hp) (C : Addr) (cl : List (Str × Addr)) (fp : List Addr), DTs (X.blk s H scope (compEnvC scope cl C X.env) fp) E0 ifs ft)
    (he : ∀ (s : Shared) (H : Hp) (C : Addr) (cl : List (Str × Addr)) (fp : List Addr), DE (X.blk s H scope (compEnvC scope cl C X.env) fp) E0 elt fe) (hs : ∀ x, foldedSetIterable iter X.env x = pure x := by intro _; rfl) :
    DE X E (.ListComp elt [⟨tg, iter, ifs, 0⟩] scope pos) (eLc fi (own.map (·.2)) bd ft fe) := by
  obtain ⟨wi, pi, hi⟩ := hi
  exact ⟨_, pe_lc (g := rdG X.K sl bd) (tt := rdT X.K E0 ft) (te := rdE X.K E0 fe) hc hN pi ok (fun s H C cl fp => (hg s H C cl fp).pg) (fun s H C cl fp => (ht s H C cl fp).pts) (fun s H C cl fp => (he s H C cl fp).pe) hs,
    run_lc hsl hi (fun B0 H0 B H σ ρ v d ρ' Q re rv e q => ⟨B0, H0, B, ρ, d, ρ', re, rv, e, q⟩) (fun B0 H0 B H σ ρ Q re q => ⟨B0, H0, B, ρ, re, q⟩) (fun B0 H0 B H σ ρ Q re q => ⟨B0, H0, B, ρ, re, q⟩)⟩
/-- name = [..] -/
theorem ds_setLc {i : Nat} {y : Str} {py spos : Pos} (hc : X.calm = true) (hN : X.N.Nodup) (hy : X.N[i]? = some y) (hyl : X.env.scope.names.lookup y = some .local)
    (hsw : swapsWith (.ListComp elt [⟨tg, iter, ifs, 0⟩] scope pos) (some (.Name y py)) spos.line X.env = pure true) (hi : DI X E tg iter fi) (ok : BlkOk X.N X.env.scope scope own) (hsl : ∀ i ∈ sl, i ∈ own.map (·.2))
    (hg : ∀ (s : Shared) (H : Hp) (C : Addr) (cl : List (Str × Addr)) (fp : List Addr), DG (X.blk s H scope (compEnvC scope cl C X.env) fp) tg sl bd)
    (ht : ∀ (s : Shared) (H : Hp) (C : Addr) (cl : List (Str × Addr)) (fp : List Addr), DTs (X.blk s H scope (compEnvC scope cl C X.env) fp) E0 ifs ft)
    (he : ∀ (s : Shared) (H : Hp) (C : Addr) (cl : List (Str × Addr)) (fp : List Addr), DE (X.blk s H scope (compEnvC scope cl C X.env) fp) E0 elt fe) (hs : ∀ x, foldedSetIterable iter X.env x = pure x := by intro _; rfl) :
    DS X E (.Assign [.Name y py] (.ListComp elt [⟨tg, iter, ifs, 0⟩] scope pos) spos) (oSet i (eLc fi (own.map (·.2)) bd ft fe)) := by
  obtain ⟨wi, pi, hi⟩ := hi
  refine ⟨_, ps_setLc (g := rdG X.K sl bd) (tt := rdT X.K E0 ft) (te := rdE X.K E0 fe) hc hN hy hyl hsw pi ok (fun s H C cl fp => (hg s H C cl fp).pg) (fun s H C cl fp => (ht s H C cl fp).pts) (fun s H C cl fp => (he s H C cl fp).pe) hs, fun B0 H0 B H σ ρ D re q => ?_⟩
  refine run_lc (sl := sl) (bd := bd) (ft := ft) (fe := fe) hsl hi (fun B0 H0 B H σ ρ v d ρ' Q re rv e q => ⟨B0, H0, B, ρ, d, ρ', re, rv, e, q⟩) (fun B0 H0 B H σ ρ Q re q => ⟨B0, H0, B, ρ, re, q⟩) (fun B0 H0 B H σ ρ Q re q => ⟨B0, H0, B, ρ, re, q⟩) B0 H0 B H σ ρ _ re ?_
  exact epost_of re q fun sl _ q v B' H' g r => q B' H' _ g.b (re.put g r)
end
end Dl
/-! The data layer: operators. -/
namespace Dl
open PySem PySem.Spec PyProof.Rows L2

section
variable {X : Cx} {E : XK}
abbrev retB (b : Bool) : M Sl := .ok (.dat (.bool b))
abbrev retI (i : Int) : M Sl := .ok (.dat (.int i))
abbrev retS (x : Str) : M Sl := .ok (.dat (.str x))
/-! ### == -/
def gEqB (d e : PyData) : M Bool := match d, e with
  | .int i, .int j => .ok (decide (i = j))
  | .str i, .str j => .ok (decide (i = j))
  | .bool i, .bool j => .ok (decide (i = j))
  | d, e => if SeqAt.shaped d = true ∧ SeqAt.shaped e = true then .ok (PyData.eqv d e) else .stuck
def gEq (d e : PyData) : M Sl := (gEqB d e).bind fun b => retB b
def gNe (d e : PyData) : M Sl := (gEqB d e).bind fun b => retB (!b)
theorem eq_cases {K : PySem.W.Frag} {B H : Hp} {x y : V} {d e : PyData} {Q : Bool → Prop} (ex : Ex B H) (rx : R K B x d) (ry : R K B y e) (h : ∃ b, gEqB d e = .ok b ∧ Q b) :
    (scal x y = true ∧ Q (decide (x = y))) ∨ ∃ d e, Dp K H x d ∧ Dp K H y e ∧ SeqAt.shaped d = true ∧ SeqAt.shaped e = true ∧ Q (PyData.eqv d e) := by
  obtain ⟨b, hb, q⟩ := h
  unfold gEqB at hb
  split at hb
  · cases rx
    cases ry
    cases hb
    refine .inl ⟨rfl, ?_⟩
    rename_i i j
    rw [show (decide (V.int i = V.int j)) = decide (i = j) by simp]
    exact q
  · cases rx
    cases ry
    cases hb
    refine .inl ⟨rfl, ?_⟩
    rename_i i j
    rw [show (decide (V.str i = V.str j)) = decide (i = j) by simp]
    exact q
  · cases rx
    cases ry
    cases hb
    refine .inl ⟨rfl, ?_⟩
    rename_i i j
    rw [show (decide (V.bl i = V.bl j)) = decide (i = j) by simp]
    exact q
  · split at hb
    · rename_i hs
      cases hb
      exact .inr ⟨d, e, (rx.mono ex).dp (SeqAt.canLay_of_shaped hs.1), (ry.mono ex).dp (SeqAt.canLay_of_shaped hs.2), hs.1, hs.2, q⟩
    · cases hb
theorem gEqB_ne {d e : PyData} {x : Str} : gEqB d e ≠ .exc x := by
  unfold gEqB
  split <;> try (intro h; cases h; done)
  split <;> (intro h; cases h)
def rEqA (K : PySem.W.Frag) : R2 := fun x y H Q => rEq x y H Q ∨ rEqD K x y H Q
def rNeA (K : PySem.W.Frag) : R2 := fun x y H Q => rNe x y H Q ∨ rNeD K x y H Q
theorem op_eqA (hu : X.A.units + 64 < cLine) : OpR X (compareOp .Eq) (rEqA X.K) := op_eq.or (op_eqD hu)
theorem op_neA (hu : X.A.units + 64 < cLine) : OpR X (compareOp .NotEq) (rNeA X.K) := op_ne.or (op_neD hu)
theorem od_eq : OpD X E (rEqA X.K) gEq := by
  intro x y d e B H Q ex rx ry q
  unfold gEq at q
  cases hb : gEqB d e with
  | stuck => rw [hb] at q; exact q.elim
  | exc x => exact (gEqB_ne hb).elim
  | ok b =>
    rw [hb] at q
    exact (eq_cases (Q := fun b => Q (.bl b) H) ex rx ry ⟨b, hb, q.val ex (.bl _)⟩)
theorem od_ne : OpD X E (rNeA X.K) gNe := by
  intro x y d e B H Q ex rx ry q
  unfold gNe at q
  cases hb : gEqB d e with
  | stuck => rw [hb] at q; exact q.elim
  | exc x => exact (gEqB_ne hb).elim
  | ok b =>
    rw [hb] at q
    exact (eq_cases (Q := fun b => Q (.bl (!b)) H) ex rx ry ⟨b, hb, q.val ex (.bl _)⟩)
/-! ### < <= > >= -/
def cmpI (op : CmpOp) (i j : Int) : Bool := match op with
  | .Lt => decide (i < j)
  | .LtE => decide (i ≤ j)
  | .Gt => decide (j < i)
  | .GtE => decide (j ≤ i)
  | _ => false
def lexD (op : CmpOp) (f : PyData → PyData → Option Bool) : List PyData → List PyData → Option Bool
  | [], [] => some (cmpI op 0 0)
  | [], _ :: _ => some (cmpI op 0 1)
  | _ :: _, [] => some (cmpI op 1 0)
  | x :: xs, y :: ys => if PyData.eqv x y = true then lexD op f xs ys else (lexD op f xs ys).bind fun _ => f x y
def cmpD (op : CmpOp) : Nat → PyData → PyData → Option Bool
  | 0, _, _ => none
  | _ + 1, .int i, .int j => some (cmpI op i j)
  | n + 1, .tuple a, .tuple b => lexD op (cmpD op n) a b
  | _ + 1, _, _ => none
def isCmp (op : CmpOp) : Bool := match op with
  | .Lt => true
  | .LtE => true
  | .Gt => true
  | .GtE => true
  | _ => false
theorem lexAt_shift (e r : Nat → Bool) (z : Bool) : ∀ (k i : Nat), Ob.lexAt (fun j => e (j + 1)) (fun j => r (j + 1)) z i k = Ob.lexAt e r z (i + 1) k
  | 0, _ => rfl
  | k + 1, i => by
    rw [Ob.lexAt_succ, Ob.lexAt_succ, lexAt_shift e r z k (i + 1)]
theorem cmpI_shift {op : CmpOp} {a b : Nat} : cmpI op ((a + 1 : Nat) : Int) ((b + 1 : Nat) : Int) = cmpI op (a : Int) (b : Int) := by
  cases op <;> simp only [cmpI, decide_eq_decide] <;> omega
theorem lexD_spec {op : CmpOp} {f : PyData → PyData → Option Bool} : ∀ {xs ys : List PyData} {b : Bool}, lexD op f xs ys = some b →
    (∀ j, j < xs.length → j < ys.length → SeqAt.pairEq xs ys j = false → f (xs.getD j .none) (ys.getD j .none) = some ((f (xs.getD j .none) (ys.getD j .none)).getD false)) ∧
    Ob.lexAt (fun j => SeqAt.pairEq xs ys j) (fun j => (f (xs.getD j .none) (ys.getD j .none)).getD false) (cmpI op xs.length ys.length) 0 (min xs.length ys.length) = b
  | [], [], b, h => ⟨fun j h1 => absurd h1 (Nat.not_lt_zero _), Option.some.inj h⟩
  | [], y :: ys, b, h => by
    refine ⟨fun j h1 => absurd h1 (Nat.not_lt_zero _), ?_⟩
    rw [← Option.some.inj h]
    show cmpI op ((0 : Nat) : Int) ((ys.length + 1 : Nat) : Int) = cmpI op 0 1
    cases op <;> simp only [cmpI, decide_eq_decide] <;> omega
  | x :: xs, [], b, h => by
    refine ⟨fun j _ h1 => absurd h1 (Nat.not_lt_zero _), ?_⟩
    rw [← Option.some.inj h]
    show cmpI op ((xs.length + 1 : Nat) : Int) ((0 : Nat) : Int) = cmpI op 1 0
    cases op <;> simp only [cmpI, decide_eq_decide] <;> omega
  | x :: xs, y :: ys, b, h => by
    have step : ∀ b', lexD op f xs ys = some b' → (PyData.eqv x y = false → f x y = some ((f x y).getD false)) → (∀ j, j < (x :: xs).length → j < (y :: ys).length → SeqAt.pairEq (x :: xs) (y :: ys) j = false → f ((x :: xs).getD j .none) ((y :: ys).getD j .none) = some ((f ((x :: xs).getD j .none) ((y :: ys).getD j .none)).getD false)) ∧
        Ob.lexAt (fun j => SeqAt.pairEq (x :: xs) (y :: ys) j) (fun j => (f ((x :: xs).getD j .none) ((y :: ys).getD j .none)).getD false) (cmpI op (x :: xs).length (y :: ys).length) 1 (min xs.length ys.length) = b' := by
      intro b' hb hxy
      obtain ⟨h1, h2⟩ := lexD_spec hb
      refine ⟨fun j l1 l2 e => ?_, ?_⟩
      · cases j with
        | zero => exact hxy e
        | succ j => exact h1 j (Nat.lt_of_succ_lt_succ l1) (Nat.lt_of_succ_lt_succ l2) e
      · rw [← h2, ← lexAt_shift]
        show Ob.lexAt _ _ (cmpI op ((xs.length + 1 : Nat) : Int) ((ys.length + 1 : Nat) : Int)) _ _ = _
        rw [cmpI_shift]
        rfl
    have hmin : min (x :: xs).length (y :: ys).length = min xs.length ys.length + 1 := by
      simp only [List.length_cons]
      omega
    unfold lexD at h
    split at h
    · rename_i hxy
      obtain ⟨k1, k2⟩ := step b h fun e => by rw [hxy] at e; cases e
      refine ⟨k1, ?_⟩
      rw [hmin, Ob.lexAt_succ, if_pos (show SeqAt.pairEq (x :: xs) (y :: ys) 0 = true from hxy)]
      exact k2
    · rename_i hxy
      cases q : lexD op f xs ys with
      | none => rw [q] at h; cases h
      | some b' =>
        rw [q] at h
        have hf : f x y = some b := h
        obtain ⟨k1, _⟩ := step b' q fun _ => by rw [hf]; rfl
        refine ⟨k1, ?_⟩
        rw [hmin, Ob.lexAt_succ, if_neg (show ¬ SeqAt.pairEq (x :: xs) (y :: ys) 0 = true from hxy)]
        show (f x y).getD false = b
        rw [hf]
        rfl
theorem rc_tuples {op : CmpOp} (hop : isCmp op = true) {A : Around} {s : Shared} {l b : Addr} {items items2 : Array Value} {e r : Nat → Bool} (hl : s.heap.IsTuple l items) (hb : s.heap.IsTuple b items2) (hu : A.units < cLine)
    (he : ∀ j (h1 : j < items.size) (h2 : j < items2.size), SeqAt.EqAt A.in1 s items[j] items2[j] (e j))
    (hr : ∀ j (h1 : j < items.size) (h2 : j < items2.size), e j = false → Ob.RcOp op A.in1 s items[j] items2[j] (r j)) :
    Ob.RcOp op A s (.ref l) (.ref b) (Ob.lexAt e r (cmpI op items.size items2.size) 0 (min items.size items2.size)) := by
  cases op with
  | Lt =>
    have := Ob.RcOp.tuples_lt hl hb hu he hr
    rw [show cmpI .Lt items.size items2.size = decide (items.size < items2.size) by simp [cmpI]]
    exact this
  | LtE =>
    have := Ob.RcOp.tuples_le hl hb hu he hr
    rw [show cmpI .LtE items.size items2.size = decide (items.size ≤ items2.size) by simp [cmpI]]
    exact this
  | Gt =>
    have := Ob.RcOp.tuples_gt hl hb hu he hr
    rw [show cmpI .Gt items.size items2.size = decide (items2.size < items.size) by simp [cmpI]]
    exact this
  | GtE =>
    have := Ob.RcOp.tuples_ge hl hb hu he hr
    rw [show cmpI .GtE items.size items2.size = decide (items2.size ≤ items.size) by simp [cmpI]]
    exact this
  | _ => cases hop
theorem rc_ints {op : CmpOp} (hop : isCmp op = true) {A : Around} {s : Shared} (i j : Int) (t u : Tok) : Ob.RcOp op A s (.int i t) (.int j u) (cmpI op i j) := by
  cases op with
  | Lt => exact .lt_int i j t u
  | LtE => exact .le_int i j t u
  | Gt => exact .gt_int i j t u
  | GtE => exact .ge_int i j t u
  | _ => cases hop
open SeqAt in
theorem readsAll_get {h : Heap} : ∀ {vs : List Value} {ds : List PyData} {as : List Addr}, ReadsAll h vs ds as → ∀ j (hj : j < vs.length), j < ds.length ∧ ∃ bs, Reads h vs[j] (ds.getD j .none) bs
  | _, _, _, .cons r q, 0, _ => ⟨Nat.zero_lt_succ _, _, r⟩
  | _, _, _, .cons r q, j + 1, hj => by
    obtain ⟨h1, h2⟩ := readsAll_get q j (Nat.lt_of_succ_lt_succ hj)
    exact ⟨Nat.succ_lt_succ h1, h2⟩
open SeqAt in
theorem rc_reads {op : CmpOp} (hop : isCmp op = true) : ∀ (n : Nat) (da db : PyData) (A : Around) (s : Shared) (a b : Value) (as bs : List Addr) (r : Bool), Reads s.heap a da as → Reads s.heap b db bs → da.canLay0 = true → db.canLay0 = true →
    cmpD op n da db = some r → A.units + da.depth + db.depth < cLine → Ob.RcOp op A s a b r
  | 0, _, _, _, _, _, _, _, _, _, _, _, _, _, h, _ => by cases h
  | n + 1, .int i, .int j, A, s, a, b, _, _, r, ra, rb, _, _, h, _ => by
    cases ra
    cases rb
    cases h
    exact rc_ints hop _ _ _ _
  | n + 1, .tuple xs, .tuple ys, A, s, a, b, _, _, r, ra, rb, ha, hb, h, hu => by
    cases ra with
    | @tuple l o vs m _ as₁ h1 h2 h3 h4 =>
      cases rb with
      | @tuple l' o' vs' m' _ bs₁ k1 k2 k3 k4 =>
        have hl : s.heap.IsTuple l vs := ⟨_, h1, h2, _, h3⟩
        have hl' : s.heap.IsTuple l' vs' := ⟨_, k1, k2, _, k3⟩
        have n1 : vs.size = xs.length := by simpa using ReadsAll.length _ _ _ h4
        have n2 : vs'.size = ys.length := by simpa using ReadsAll.length _ _ _ k4
        have hd1 : (PyData.tuple xs).depth = PyData.depthAll xs + 1 := by rw [PyData.depth]
        have hd2 : (PyData.tuple ys).depth = PyData.depthAll ys + 1 := by rw [PyData.depth]
        rw [hd1, hd2] at hu
        have h : lexD op (cmpD op n) xs ys = some r := h
        obtain ⟨q1, q2⟩ := lexD_spec h
        have lay : ∀ (zs : List PyData) j, j < zs.length → PyData.canLayAll0 zs = true → (zs.getD j .none).canLay0 = true := by
          intro zs
          induction zs with
          | nil => intro j hj _; exact absurd hj (Nat.not_lt_zero _)
          | cons z zs ih =>
            intro j hj hc
            rw [PyData.canLayAll0, Bool.and_eq_true] at hc
            cases j with
            | zero => exact hc.1
            | succ j => exact ih j (Nat.lt_of_succ_lt_succ hj) hc.2
        have dep : ∀ (zs : List PyData) j, j < zs.length → (zs.getD j .none).depth ≤ PyData.depthAll zs := by
          intro zs j hj
          refine PyData.depth_le_depthAll zs _ ?_
          rw [List.getD_eq_getElem?_getD, List.getElem?_eq_getElem hj]
          exact List.getElem_mem hj
        have ha' : PyData.canLayAll0 xs = true := by simpa [PyData.canLay0] using ha
        have hb' : PyData.canLayAll0 ys = true := by simpa [PyData.canLay0] using hb
        rw [← q2, ← n1, ← n2]
        refine rc_tuples hop hl hl' (by omega) (fun j j1 j2 => ?_) fun j j1 j2 ne => ?_
        · have := SeqAt.eqAt_readsAll xs ys A.in1 s vs.toList vs'.toList _ _ h4 k4 ha' hb' (by show A.units + 1 + _ < _; omega) j (by simpa using j1) (by simpa using j2)
          simpa using this
        · obtain ⟨l1, _, r1⟩ := readsAll_get h4 j (by simpa using j1)
          obtain ⟨l2, _, r2⟩ := readsAll_get k4 j (by simpa using j2)
          have d1 := dep xs j l1
          have d2 := dep ys j l2
          have := rc_reads hop n _ _ A.in1 s _ _ _ _ _ r1 r2 (lay xs j l1 ha') (lay ys j l2 hb') (q1 j l1 l2 ne) (by show A.units + 1 + _ + _ < _; omega)
          simpa using this
  | n + 1, .none, _, _, _, _, _, _, _, _, _, _, _, _, h, _ => by cases h
  | n + 1, .bool _, _, _, _, _, _, _, _, _, _, _, _, _, h, _ => by cases h
  | n + 1, .str _, _, _, _, _, _, _, _, _, _, _, _, _, h, _ => by cases h
  | n + 1, .list _, _, _, _, _, _, _, _, _, _, _, _, _, h, _ => by cases h
  | n + 1, .dict _, _, _, _, _, _, _, _, _, _, _, _, _, h, _ => by cases h
  | n + 1, .int _, .none, _, _, _, _, _, _, _, _, _, _, _, h, _ => by cases h
  | n + 1, .int _, .bool _, _, _, _, _, _, _, _, _, _, _, _, h, _ => by cases h
  | n + 1, .int _, .str _, _, _, _, _, _, _, _, _, _, _, _, h, _ => by cases h
  | n + 1, .int _, .list _, _, _, _, _, _, _, _, _, _, _, _, h, _ => by cases h
  | n + 1, .int _, .tuple _, _, _, _, _, _, _, _, _, _, _, _, h, _ => by cases h
  | n + 1, .int _, .dict _, _, _, _, _, _, _, _, _, _, _, _, h, _ => by cases h
  | n + 1, .tuple _, .none, _, _, _, _, _, _, _, _, _, _, _, h, _ => by cases h
  | n + 1, .tuple _, .bool _, _, _, _, _, _, _, _, _, _, _, _, h, _ => by cases h
  | n + 1, .tuple _, .str _, _, _, _, _, _, _, _, _, _, _, _, h, _ => by cases h
  | n + 1, .tuple _, .list _, _, _, _, _, _, _, _, _, _, _, _, h, _ => by cases h
  | n + 1, .tuple _, .int _, _, _, _, _, _, _, _, _, _, _, _, h, _ => by cases h
  | n + 1, .tuple _, .dict _, _, _, _, _, _, _, _, _, _, _, _, h, _ => by cases h
/-- data of ints and tuples of them, four deep: a op b -/
def rCmpD (K : PySem.W.Frag) (op : CmpOp) : R2 := fun x y H Q => ∃ d e b, Dp K H x d ∧ Dp K H y e ∧ SeqAt.shaped d = true ∧ SeqAt.shaped e = true ∧ d.depth ≤ 30 ∧ e.depth ≤ 30 ∧ cmpD op 4 d e = some b ∧ Q (.bl b) H
theorem op_cmpD {op : CmpOp} (hop : isCmp op = true) (hu : X.A.units + 64 < cLine) : OpR X (compareOp op) (rCmpD X.K op) := by
  intro pins s σ H x y v u Q I rx ry h
  obtain ⟨d, e, b, hd, he, sd, se, dd, de, hc, q⟩ := h
  obtain ⟨as, r1⟩ := Dp.reads I d x v hd rx
  obtain ⟨bs, r2⟩ := Dp.reads I e y u he ry
  have z := rc_reads hop 4 d e X.A s v u as bs b r1 r2 (SeqAt.canLay_of_shaped sd) (SeqAt.canLay_of_shaped se) hc (by omega)
  cases op with
  | Lt => exact z X.prog X.w X.xe (EP X pins σ Q) ⟨.bl _, H, I, rfl, q⟩
  | LtE => exact z X.prog X.w X.xe (EP X pins σ Q) ⟨.bl _, H, I, rfl, q⟩
  | Gt => exact z X.prog X.w X.xe (EP X pins σ Q) ⟨.bl _, H, I, rfl, q⟩
  | GtE => exact z X.prog X.w X.xe (EP X pins σ Q) ⟨.bl _, H, I, rfl, q⟩
  | _ => cases hop
def rCmpA (K : PySem.W.Frag) (op : CmpOp) : R2 := fun x y H Q => rI0 (fun i j => .bl (cmpI op i j)) x y H Q ∨ rCmpD K op x y H Q
theorem op_cmpA {op : CmpOp} (hop : isCmp op = true) (hu : X.A.units + 64 < cLine) : OpR X (compareOp op) (rCmpA X.K op) := by
  cases op with
  | Lt => exact op_lt.or (op_cmpD hop hu)
  | LtE => exact op_le.or (op_cmpD hop hu)
  | Gt => exact op_gt.or (op_cmpD hop hu)
  | GtE => exact op_ge.or (op_cmpD hop hu)
  | _ => cases hop
def gCmp (op : CmpOp) (d e : PyData) : M Sl := match d, e with
  | .int i, .int j => retB (cmpI op i j)
  | d, e => if SeqAt.shaped d = true ∧ SeqAt.shaped e = true ∧ d.depth ≤ 30 ∧ e.depth ≤ 30 then (match cmpD op 4 d e with
    | some b => retB b
    | none => .stuck) else .stuck
theorem od_cmp {op : CmpOp} : OpD X E (rCmpA X.K op) (gCmp op) := by
  intro x y d e B H Q ex rx ry q
  unfold gCmp at q
  split at q
  · cases rx
    cases ry
    exact .inl ⟨_, _, rfl, rfl, q.val ex (.bl _)⟩
  · split at q
    · rename_i h
      obtain ⟨h1, h2, h3, h4⟩ := h
      split at q
      · rename_i b hb
        exact .inr ⟨d, e, b, (rx.mono ex).dp (SeqAt.canLay_of_shaped h1), (ry.mono ex).dp (SeqAt.canLay_of_shaped h2), h1, h2, h3, h4, hb, q.val ex (.bl _)⟩
      · exact q.elim
    · exact q.elim
/-! ### is None -/
def isNoneD (d : PyData) : Bool := match d with
  | .none => true
  | _ => false
def gIsN (d e : PyData) : M Sl := match e with
  | .none => retB (isNoneD d)
  | _ => .stuck
def gNotN (d e : PyData) : M Sl := match e with
  | .none => retB (!isNoneD d)
  | _ => .stuck
theorem isN_of {K : PySem.W.Frag} {B : Hp} {x : V} {d : PyData} (r : R K B x d) : decide (x = .non) = isNoneD d := by cases r <;> simp [isNoneD]
theorem od_isN : OpD X E (fun x y H Q => y = .non ∧ Q (.bl (decide (x = .non))) H) gIsN := by
  intro x y d e B H Q ex rx ry q
  unfold gIsN at q
  split at q
  · cases ry
    refine ⟨rfl, ?_⟩
    rw [isN_of rx]
    exact q.val ex (.bl _)
  · exact q.elim
theorem od_notN : OpD X E (fun x y H Q => y = .non ∧ Q (.bl (!decide (x = .non))) H) gNotN := by
  intro x y d e B H Q ex rx ry q
  unfold gNotN at q
  split at q
  · cases ry
    refine ⟨rfl, ?_⟩
    rw [isN_of rx]
    exact q.val ex (.bl _)
  · exact q.elim
/-! ### arithmetic -/
def rAddA (K : PySem.W.Frag) : R2 := fun x y H Q => rI0 (fun i j => .int (i + j)) x y H Q ∨ (∃ i j, x = .str i ∧ y = .str j ∧ i.length + j.length ≤ sizeLine ∧ Q (.str (i ++ j)) H) ∨ rCatA K x y H Q ∨ rCat x y H Q
theorem op_addA : OpR X (binaryOp .Add) (rAddA X.K) := op_add.or (op_add_str.or (op_catA.or op_cat))
def gAdd (d e : PyData) : M Sl := match d, e with
  | .int i, .int j => retI (i + j)
  | .str a, .str b => if big (a.length + b.length) = true then retS (a ++ b) else .stuck
  | .tuple a, .tuple b => if big (a.length + b.length) = true then .ok (.dat (.tuple (a ++ b))) else .stuck
  | .list a, .list b => if big (a.length + b.length) = true then .ok (.own (.list (a ++ b))) else .stuck
  | _, _ => .stuck
theorem RA.nil_iff {K : PySem.W.Frag} {B : Hp} {xs : List V} {ds : List PyData} (r : RA K B xs ds) : xs = [] ↔ ds = [] := by
  cases r <;> simp
theorem od_add : OpD X E (rAddA X.K) gAdd := by
  intro x y d e B H Q ex rx ry q
  unfold gAdd at q
  split at q
  · cases rx
    cases ry
    exact .inl ⟨_, _, rfl, rfl, q.val ex (.int _)⟩
  · cases rx
    cases ry
    split at q
    · rename_i h
      exact .inr (.inl ⟨_, _, rfl, rfl, big_ok h, q.val ex (.str _)⟩)
    · exact q.elim
  · split at q
    · rename_i h
      cases rx with
      | tup h1 r1 =>
        cases ry with
        | tup h2 r2 =>
          refine .inr (.inr (.inl ⟨_, _, _, _, rfl, rfl, ex_u ex h1, ex_u ex h2, by rw [r1.length, r2.length]; exact big_ok h, fun z => ?_, fun z z2 => ?_, fun z z2 p hp => ?_⟩))
          · have := r1.nil_iff.mp z
            subst this
            exact q.val ex (.tup h2 r2)
          · have := r2.nil_iff.mp z2
            subst this
            rw [List.append_nil] at q
            exact q.val ex (.tup h1 r1)
          · have nb := ex.back hp
            exact q.new ex hp (.tup upd_same ((r1.append r2).mono (.new nb)))
    · exact q.elim
  · split at q
    · rename_i h
      cases rx with
      | lst h1 r1 =>
        cases ry with
        | lst h2 r2 => exact .inr (.inr (.inr ⟨_, _, _, _, rfl, rfl, ex _ _ h1, ex _ _ h2, by rw [r1.length, r2.length]; exact big_ok h, fun p hp => q.own ex hp (.lst (r1.append r2))⟩))
    · exact q.elim
  · exact q.elim
def gSub (d e : PyData) : M Sl := match d, e with
  | .int i, .int j => retI (i - j)
  | _, _ => .stuck
theorem od_sub : OpD X E (rI0 fun i j => .int (i - j)) gSub := by
  intro x y d e B H Q ex rx ry q
  unfold gSub at q
  split at q
  · cases rx
    cases ry
    exact ⟨_, _, rfl, rfl, q.val ex (.int _)⟩
  · exact q.elim
/-- int * int, one of them small; text * int -/
def smallI (i : Int) : Bool := decide (i.natAbs ≤ 18446744073709551615)
theorem smallI_ok {i : Int} (h : smallI i = true) : -(2 ^ 64) < i ∧ i < 2 ^ 64 := by
  have := of_decide_eq_true h
  omega
def rMulS : R2 := fun x y H Q => ∃ z n, x = .str z ∧ y = .int n ∧ MulOk z n ∧ Q (.str (Txt.mul z n)) H
theorem op_mulS : OpR X (binaryOp .Mult) rMulS := by
  intro pins s σ H x y v u Q I rx ry h
  obtain ⟨z, n, rfl, rfl, hm, q⟩ := h
  obtain ⟨t, rfl⟩ := rx
  obtain ⟨t', rfl⟩ := ry
  exact SB.mul hm fun t2 k => ⟨.str _, H, I.tok _, ⟨_, rfl⟩, q⟩
def rMulA : R2 := fun x y H Q => rI CMul (fun i j => .int (i * j)) x y H Q ∨ rMulS x y H Q
theorem op_mulA : OpR X (binaryOp .Mult) rMulA := op_mul.or op_mulS
def gMul (d e : PyData) : M Sl := match d, e with
  | .int i, .int j => if smallI i = true ∨ smallI j = true then retI (i * j) else .stuck
  | .str z, .int n => if z.length ≤ 100 ∧ 0 ≤ n ∧ n ≤ 10000 then retS (Txt.mul z n) else .stuck
  | _, _ => .stuck
theorem od_mul : OpD X E rMulA gMul := by
  intro x y d e B H Q ex rx ry q
  unfold gMul at q
  split at q
  · split at q
    · rename_i h
      cases rx
      cases ry
      exact .inl ⟨_, _, rfl, rfl, h.elim (fun h => .inl (smallI_ok h)) (fun h => .inr (smallI_ok h)), q.val ex (.int _)⟩
    · exact q.elim
  · split at q
    · rename_i h
      cases rx
      cases ry
      exact .inr ⟨_, _, rfl, rfl, PyProof.Rows.mulOk_of 100 10000 h.1 h.2.2 (by have := h.2.1; omega) (by decide) (by decide), q.val ex (.str _)⟩
    · exact q.elim
  · exact q.elim
def gMod (d e : PyData) : M Sl := match d, e with
  | .int i, .int j => if 0 < j then retI (i % j) else .stuck
  | _, _ => .stuck
theorem od_mod : OpD X E (rI (fun _ j => 0 < j) fun i j => .int (i % j)) gMod := by
  intro x y d e B H Q ex rx ry q
  unfold gMod at q
  split at q
  · split at q
    · rename_i h
      cases rx
      cases ry
      exact ⟨_, _, rfl, rfl, h, q.val ex (.int _)⟩
    · exact q.elim
  · exact q.elim
def gDiv (d e : PyData) : M Sl := match d, e with
  | .int i, .int j => if 0 < j ∧ j < 18446744073709551616 then retI (i / j) else .stuck
  | _, _ => .stuck
theorem od_div : OpD X E (rI CDivW fun i j => .int (i / j)) gDiv := by
  intro x y d e B H Q ex rx ry q
  unfold gDiv at q
  split at q
  · split at q
    · rename_i h
      cases rx
      cases ry
      refine ⟨_, _, rfl, rfl, wide_div (b := 64) h.1 ?_ (by decide) (by decide), q.val ex (.int _)⟩
      have := h.2
      omega
    · exact q.elim
  · exact q.elim
def gPow (d e : PyData) : M Sl := match d, e with
  | .int i, .int j => if 0 ≤ j ∧ j ≤ 1000 ∧ smallI i = true then retI (i ^ j.toNat) else .stuck
  | _, _ => .stuck
theorem od_pow : OpD X E (rI CPow fun i j => .int (i ^ j.toNat)) gPow := by
  intro x y d e B H Q ex rx ry q
  unfold gPow at q
  split at q
  · split at q
    · rename_i h
      cases rx
      cases ry
      have k := smallI_ok h.2.2
      exact ⟨_, _, rfl, rfl, ⟨h.1, by have := h.2.1; omega, by omega⟩, q.val ex (.int _)⟩
    · exact q.elim
  · exact q.elim
def gNeg (d : PyData) : M Sl := match d with
  | .int i => retI (-i)
  | _ => .stuck
theorem ud_neg : UnD X E (rU fun i => .int (-i)) gNeg := by
  intro x d B H Q ex rx q
  unfold gNeg at q
  split at q
  · cases rx
    exact ⟨_, rfl, q.val ex (.int _)⟩
  · exact q.elim
end
end Dl
/-! The data layer: subscripts, slices, len, in, calls of built-in names. -/
namespace Dl
open PySem PySem.Spec PyProof.Rows L2

section
variable {X : Cx} {E : XK} {a b c e : Expr} {fa fb fc : Env → M Sl} {pos : Pos}
/-! ### subscripts -/
theorem RA.at {K : PySem.W.Frag} {B : Hp} {vs : List V} {ds : List PyData} {i : Int} {d : PyData} (r : RA K B vs ds) (h : atI ds i = some d) : ∃ v, atI vs i = some v ∧ R K B v d := by
  unfold atI at h ⊢
  rw [r.length]
  cases q : ixN ds.length i with
  | none => rw [q] at h; cases h
  | some j =>
    rw [q] at h
    exact r.get h
def gIx (d e : PyData) : M Sl := match d, e with
  | .list ds, .int i => (match atI ds i with
    | some d => .ok (.dat d)
    | none => .stuck)
  | .tuple ds, .int i => (match atI ds i with
    | some d => .ok (.dat d)
    | none => .stuck)
  | .dict [(.none, .list ds)], .int i => (match atI ds i with
    | some d => .ok (.dat d)
    | none => .stuck)
  | .str z, .int i => if big z.length = true then (match atI z.cps.toList i with
    | some c => retS ⟨#[c]⟩
    | none => .stuck) else .stuck
  | _, _ => .stuck
theorem scr_inv {K : PySem.W.Frag} {B : Hp} {x : V} {l : List PyData} (r : R K B x (.dict [(.none, .list l)])) : ∃ (a : Addr) (ns : List Int), x = .ref a ∧ SqL K B a (ns.map V.int) ∧ l = ns.map PyData.int := by
  generalize hg : PyData.dict [(PyData.none, PyData.list l)] = D at r
  cases r with
  | scr h =>
    injection hg with hg
    injection hg with hg _
    injection hg with _ hg
    injection hg with hg
    exact ⟨_, _, rfl, h, hg⟩
  | dK h r =>
    rename_i kvs vs
    cases kvs with
    | nil => cases hg
    | cons kv kvs =>
      cases vs with
      | nil => cases hg
      | cons v vs =>
        injection hg with hg
        injection hg with hg _
        injection hg with hg _
        obtain ⟨k, _⟩ := kv
        cases k <;> cases hg
  | dT h r =>
    rename_i kvs vs
    cases kvs with
    | nil => cases hg
    | cons kv kvs =>
      cases vs with
      | nil => cases hg
      | cons v vs =>
        injection hg with hg
        injection hg with hg _
        injection hg with hg _
        cases hg
  | ins h r =>
    injection hg with hg
    injection hg with hg _
    injection hg with _ hg
    cases hg
  | _ => cases hg
theorem od_ix : OpD X E (rIx X.K) gIx := by
  intro x y d e B H Q ex rx ry q
  unfold gIx at q
  split at q
  · split at q
    · rename_i dd hd
      cases ry
      cases rx with
      | lst h r =>
        obtain ⟨v, h1, h2⟩ := r.at hd
        exact .inl ⟨_, _, _, v, rfl, rfl, .of (ex _ _ h), h1, q.val ex h2⟩
    · exact q.elim
  · split at q
    · rename_i dd hd
      cases ry
      cases rx with
      | tup h r =>
        obtain ⟨v, h1, h2⟩ := r.at hd
        exact .inr (.inl ⟨_, _, _, v, rfl, rfl, ex_u ex h, h1, q.val ex h2⟩)
    · exact q.elim
  · rename_i ds i
    split at q
    · rename_i dd hd
      cases ry
      obtain ⟨a, ns, rfl, h, rfl⟩ := scr_inv rx
      have r := ra_ints (K := X.K) (H := H) ns
      obtain ⟨v, h1, h2⟩ := r.at hd
      have hi : ∃ n, dd = PyData.int n := by
        have : dd ∈ ns.map PyData.int := by
          unfold atI at hd
          cases z : ixN (ns.map PyData.int).length i with
          | none => rw [z] at hd; cases hd
          | some j =>
            rw [z] at hd
            exact List.mem_of_getElem? hd
        obtain ⟨n, _, hn⟩ := List.mem_map.mp this
        exact ⟨n, hn.symm⟩
      obtain ⟨n, rfl⟩ := hi
      cases h2
      exact .inl ⟨_, _, _, _, rfl, rfl, Same.seq ex h, h1, q.val ex (.int n)⟩
    · exact q.elim
  · split at q
    · rename_i hb
      split at q
      · rename_i cc hd
        cases ry
        cases rx
        exact .inr (.inr ⟨_, _, cc, rfl, rfl, big_ok hb, hd, q.val ex (.str _)⟩)
      · exact q.elim
    · exact q.elim
  · exact q.elim
theorem de_ix (ha : DE X E a fa) (hb : DE X E b fb) (hs : PlainIx b) : DE X E (.Subscript a b pos) (eOp gIx fa fb) := by
  obtain ⟨ta, pa, ha⟩ := ha
  obtain ⟨tb, pb, hb⟩ := hb
  exact ⟨_, pe_ix ix_seq pa pb hs, run_op od_ix ha hb⟩
/-! ### slices -/
def DO (X : Cx) (E : XK) (e : Option Expr) (f : Env → M (Option Int)) : Prop := ∃ t, PO X e t ∧ ∀ B0 H0 B H σ ρ (Q : Option Int → Hp → Prop), ER X.K B0 H0 B H σ ρ →
  ((∃ o, f ρ = .ok o ∧ ∀ B' H', Gr B H B' H' → Q o H') ∨ ∃ x, f ρ = .exc x ∧ ∀ H', Ex H H' → E (.ref (He.ga X.K x)) none H') → t σ H Q
def sNone : Env → M (Option Int) := fun _ => .ok none
def isI (d : PyData) : M Int := match d with
  | .int i => .ok i
  | _ => .stuck
def sSome (f : Env → M Sl) : Env → M (Option Int) := fun ρ => (f ρ).bind fun x => (isI x.d).bind fun i => .ok (some i)
theorem do_none : DO X E none sNone := by
  refine ⟨_, po_none, fun B0 H0 B H σ ρ Q re q => ?_⟩
  rcases q with ⟨o, h, q⟩ | ⟨x, h, _⟩
  · cases h
    exact q B H (.refl re.gr.s)
  · cases h
theorem do_some (h : DE X E e fa) : DO X E (some e) (sSome fa) := by
  obtain ⟨t, p, h⟩ := h
  refine ⟨_, po_some p, fun B0 H0 B H σ ρ Q re q => ?_⟩
  refine run_e h re ?_
  unfold sSome at q
  cases z : fa ρ with
  | stuck =>
    rw [z] at q
    rcases q with ⟨o, h, _⟩ | ⟨x, h, _⟩ <;> cases h
  | exc x =>
    rw [z] at q
    rcases q with ⟨o, h, _⟩ | ⟨y, h, q⟩
    · cases h
    · cases h
      exact .inr ⟨x, rfl, q⟩
  | ok sl =>
    refine .inl ⟨sl, rfl, fun v B' H' g r => ?_⟩
    rw [z, bind_ok] at q
    cases zd : sl.d with
    | int i =>
      rw [zd] at q r
      cases r
      rcases q with ⟨o, h, q⟩ | ⟨x, h, _⟩
      · cases h
        exact ⟨i, rfl, q B' H' g⟩
      · cases h
    | _ =>
      rw [zd] at q
      rcases q with ⟨o, h, _⟩ | ⟨x, h, _⟩ <;> cases h
def cutD (ds : List PyData) (lo hi : Option Int) : List PyData := (ds.drop (HT.sIx ds.length 0 lo)).take (HT.sIx ds.length ds.length hi - HT.sIx ds.length 0 lo)
theorem RA.cut {K : PySem.W.Frag} {B : Hp} {vs : List V} {ds : List PyData} (r : RA K B vs ds) (lo hi : Option Int) : RA K B (cutV vs lo hi) (cutD ds lo hi) := by
  unfold cutV cutD
  rw [r.length]
  exact (r.drop _).take _
def gSl (d : PyData) (lo hi : Option Int) : M Sl := match d with
  | .list ds => .ok (.own (.list (cutD ds lo hi)))
  | .tuple ds => .ok (.dat (.tuple (cutD ds lo hi)))
  | .str z => if big z.length = true then retS (cutS z lo hi) else .stuck
  | _ => .stuck
def rSlX (K : PySem.W.Frag) : V → Option Int → Option Int → Hp → VK → Prop := fun x lo hi H Q => rSlL K x lo hi H Q ∨ rSlA K x lo hi H Q ∨ rSlS x lo hi H Q
theorem sl_X : SlR X (rSlX X.K) := sl_list.or (sl_tupA.or sl_str)
theorem sld {x : V} {d : PyData} {lo hi : Option Int} {B H : Hp} {Q : VK} (ex : Ex B H) (rx : R X.K B x d) (q : EPost X.K E B H (gSl d lo hi) Q) : rSlX X.K x lo hi H Q := by
  unfold gSl at q
  split at q
  · cases rx with
    | lst h r => exact .inl ⟨_, _, rfl, .of (ex _ _ h), fun p hp => q.own ex hp (.lst (r.cut lo hi))⟩
  · cases rx with
    | tup h r =>
      refine .inr (.inl ⟨_, _, rfl, ex_u ex h, fun z => ?_, fun z p hp => ?_⟩)
      · refine q.val ex ?_
        have rc := r.cut lo hi
        unfold cutV at rc
        rw [z.1, z.2] at rc
        simp only [List.drop_zero, Nat.sub_zero, List.take_length] at rc
        exact .tup h rc
      · exact q.new ex hp (.tup upd_same ((r.cut lo hi).mono (.new (ex.back hp))))
  · split at q
    · rename_i hb
      cases rx
      exact .inr (.inr ⟨_, rfl, big_ok hb, q.val ex (.str _)⟩)
    · exact q.elim
  · exact q.elim
def eSl (f : Env → M Sl) (lo hi : Env → M (Option Int)) : Env → M Sl := fun ρ => (f ρ).bind fun x => (lo ρ).bind fun i => (hi ρ).bind fun j => gSl x.d i j
theorem de_sl {lo hi : Option Expr} {fl fh : Env → M (Option Int)} {p2 : Pos} (h : DE X E e fa) (hl : DO X E lo fl) (hh : DO X E hi fh) : DE X E (.Subscript e (.Slice lo hi none p2) pos) (eSl fa fl fh) := by
  obtain ⟨t, p, h⟩ := h
  obtain ⟨tl, pl, hl⟩ := hl
  obtain ⟨th, ph, hh⟩ := hh
  refine ⟨_, pe_slice sl_X p pl ph, fun B0 H0 B H σ ρ Q re q => ?_⟩
  refine run_e h re ?_
  rcases q.bind with ⟨x, e1, q⟩ | ⟨x, e1, q⟩
  · refine .inl ⟨x, e1, fun v B1 H1 g1 r1 => ?_⟩
    refine hl B0 H0 B1 H1 σ ρ _ (re.grow g1) ?_
    rcases (EPost.grow g1 q).bind with ⟨i, e2, q⟩ | ⟨i, e2, q⟩
    · refine .inl ⟨i, e2, fun B2 H2 g2 => ?_⟩
      refine hh B0 H0 B2 H2 σ ρ _ ((re.grow g1).grow g2) ?_
      rcases (EPost.grow g2 q).bind with ⟨j, e3, q⟩ | ⟨j, e3, q⟩
      · exact .inl ⟨j, e3, fun B3 H3 g3 => sld g3.s (r1.mono (g2.b.trans g3.b)) (EPost.grow g3 q)⟩
      · exact .inr ⟨j, e3, q⟩
    · exact .inr ⟨i, e2, q⟩
  · exact .inr ⟨x, e1, q⟩
/-! ### len -/
def gLen (ds : List PyData) : M Sl := match ds with
  | [.list l] => retI l.length
  | [.tuple l] => retI l.length
  | [.str z] => if big z.length = true then retI z.length else .stuck
  | [.dict [(.none, .list l)]] => retI l.length
  | _ => .stuck
def rLenA (K : PySem.W.Frag) : List V → Hp → VK → Prop := fun xs H Q => (∃ p ys, xs = [.ref p] ∧ (SqL K H p ys ∨ SqT K H p ys) ∧ Q (.int ys.length) H) ∨ ∃ z, xs = [.str z] ∧ z.length ≤ sizeLine ∧ Q (.int z.length) H
theorem call_lenA : CallR X (.builtin "len") (rLenA X.K) := call_len_seq.or call_len_str
theorem cd_len : CallD X E (rLenA X.K) gLen := by
  intro xs ds B H Q ex ra q
  unfold gLen at q
  split at q
  · cases ra with
    | cons r t =>
      cases t
      cases r with
      | lst h r => exact .inl ⟨_, _, rfl, .inl (.of (ex _ _ h)), by rw [r.length]; exact q.val ex (.int _)⟩
  · cases ra with
    | cons r t =>
      cases t
      cases r with
      | tup h r => exact .inl ⟨_, _, rfl, .inr (ex_u ex h), by rw [r.length]; exact q.val ex (.int _)⟩
  · split at q
    · rename_i hb
      cases ra with
      | cons r t =>
        cases t
        cases r
        exact .inr ⟨_, rfl, big_ok hb, q.val ex (.int _)⟩
    · exact q.elim
  · cases ra with
    | cons r t =>
      cases t
      obtain ⟨a, ns, rfl, h, rfl⟩ := scr_inv r
      refine .inl ⟨_, _, rfl, .inl (Same.seq ex h), ?_⟩
      rw [List.length_map] at q ⊢
      exact q.val ex (.int _)
  · exact q.elim
/-! ### tuple(..), list(..), all, any, min, max -/
def gTuple (ds : List PyData) : M Sl := match ds with
  | [.list l] => .ok (.dat (.tuple l))
  | [.tuple l] => .ok (.dat (.tuple l))
  | _ => .stuck
theorem cd_tuple : CallD X E (fun xs H Q => ∃ p ys, xs = [.ref p] ∧ ((SqL X.K H p ys ∧ ∀ l, H l = none → Q (.ref l) (upd H l (.tup ys))) ∨ (SqT X.K H p ys ∧ Q (.ref p) H))) gTuple := by
  intro xs ds B H Q ex ra q
  unfold gTuple at q
  split at q
  · cases ra with
    | cons r t =>
      cases t
      cases r with
      | lst h r => exact ⟨_, _, rfl, .inl ⟨.of (ex _ _ h), fun p hp => q.new ex hp (.tup upd_same (r.mono (.new (ex.back hp))))⟩⟩
  · cases ra with
    | cons r t =>
      cases t
      cases r with
      | tup h r => exact ⟨_, _, rfl, .inr ⟨ex_u ex h, q.val ex (.tup h r)⟩⟩
  · exact q.elim
def gList (ds : List PyData) : M Sl := match ds with
  | [.list l] => .ok (.own (.list l))
  | [.tuple l] => .ok (.own (.list l))
  | _ => .stuck
theorem cd_list : CallD X E (fun xs H Q => ∃ p ys, xs = [.ref p] ∧ (SqL X.K H p ys ∨ SqT X.K H p ys) ∧ ∀ l, H l = none → Q (.ref l) (upd H l (.lst ys))) gList := by
  intro xs ds B H Q ex ra q
  unfold gList at q
  split at q
  · cases ra with
    | cons r t =>
      cases t
      cases r with
      | lst h r => exact ⟨_, _, rfl, .inl (.of (ex _ _ h)), fun p hp => q.own ex hp (.lst r)⟩
  · cases ra with
    | cons r t =>
      cases t
      cases r with
      | tup h r => exact ⟨_, _, rfl, .inr (ex_u ex h), fun p hp => q.own ex hp (.lst r)⟩
  · exact q.elim
def boolsOf : List PyData → Option (List Bool)
  | [] => some []
  | .bool b :: ds => (boolsOf ds).map (b :: ·)
  | _ :: _ => none
theorem boolsOf_map : ∀ {ds : List PyData} {bs : List Bool}, boolsOf ds = some bs → ds = bs.map PyData.bool
  | [], bs, h => by cases h; rfl
  | d :: ds, bs, h => by
    cases d <;> simp only [boolsOf] at h <;> try cases h
    cases q : boolsOf ds with
    | none => rw [q] at h; cases h
    | some l =>
      rw [q] at h
      cases h
      rw [boolsOf_map q]
      rfl
def gAllAny (k : List Bool → Bool) (ds : List PyData) : M Sl := match ds with
  | [.list l] => (match boolsOf l with
    | some bs => retB (k bs)
    | none => .stuck)
  | _ => .stuck
theorem cd_all : CallD X E (rAll X.K) (gAllAny fun bs => bs.all id) := by
  intro xs ds B H Q ex ra q
  unfold gAllAny at q
  split at q
  · split at q
    · rename_i bs hb
      cases ra with
      | cons r t =>
        cases t
        cases r with
        | lst h r =>
          rw [boolsOf_map hb] at r
          exact ⟨_, bs, rfl, by rw [← r.bools]; exact .of (ex _ _ h), q.val ex (.bl _)⟩
    · exact q.elim
  · exact q.elim
theorem cd_any : CallD X E (rAny X.K) (gAllAny fun bs => bs.any id) := by
  intro xs ds B H Q ex ra q
  unfold gAllAny at q
  split at q
  · split at q
    · rename_i bs hb
      cases ra with
      | cons r t =>
        cases t
        cases r with
        | lst h r =>
          rw [boolsOf_map hb] at r
          exact ⟨_, bs, rfl, by rw [← r.bools]; exact .of (ex _ _ h), q.val ex (.bl _)⟩
    · exact q.elim
  · exact q.elim
def gMin2 (ds : List PyData) : M Sl := match ds with
  | [.int i, .int j] => retI (if j < i then j else i)
  | _ => .stuck
def gMax2 (ds : List PyData) : M Sl := match ds with
  | [.int i, .int j] => retI (if j > i then j else i)
  | _ => .stuck
theorem cd_min2 : CallD X E (fun xs H Q => ∃ i j, xs = [.int i, .int j] ∧ Q (.int (if j < i then j else i)) H) gMin2 := by
  intro xs ds B H Q ex ra q
  unfold gMin2 at q
  split at q
  · cases ra with
    | cons r t =>
      cases t with
      | cons r2 t =>
        cases t
        cases r
        cases r2
        exact ⟨_, _, rfl, q.val ex (.int _)⟩
  · exact q.elim
theorem cd_max2 : CallD X E (fun xs H Q => ∃ i j, xs = [.int i, .int j] ∧ Q (.int (if j > i then j else i)) H) gMax2 := by
  intro xs ds B H Q ex ra q
  unfold gMax2 at q
  split at q
  · cases ra with
    | cons r t =>
      cases t with
      | cons r2 t =>
        cases t
        cases r
        cases r2
        exact ⟨_, _, rfl, q.val ex (.int _)⟩
  · exact q.elim
/-! ### list(range(n)) -/
def eLstRg1 (fa : Env → M Sl) : Env → M Sl := fun ρ => (fa ρ).bind fun x => (isI x.d).bind fun n => if 0 ≤ n ∧ n ≤ 10000 then .ok (.own (.list (rng 0 n.toNat))) else .stuck
theorem rgV_ra {K : PySem.W.Frag} {B : Hp} (n : Int) : RA K B (rgV 0 n) (rng 0 n.toNat) := by
  unfold rgV rng
  rw [Int.sub_zero]
  have : ∀ l : List Nat, RA K B (l.map fun i : Nat => V.int (0 + (i : Int))) (l.map fun (i : Nat) => PyData.int (0 + (i : Int))) := by
    intro l
    induction l with
    | nil => exact .nil
    | cons x l ih => exact .cons (.int _) ih
  exact this _
theorem de_listRg1 {p p2 pos2 : Pos} (hc : X.calm = true) (hg : Gl X "list") (hm : X.mg "list" = none) (hg2 : Gl X "range") (hm2 : X.mg "range" = none) (h : DE X E a fa) (na : starEach [Expr.Call (.Name "range" p2) [a] [] pos2] X.env = (false, eval (Expr.Call (.Name "range" p2) [a] [] pos2) X.env) :: starEach [] X.env := by rfl)
    (na2 : starEach [a] X.env = (false, eval a X.env) :: starEach [] X.env := by rfl) : DE X E (.Call (.Name "list" p) [.Call (.Name "range" p2) [a] [] pos2] [] pos) (eLstRg1 fa) := by
  obtain ⟨t, pt, h⟩ := h
  refine ⟨_, pe_listRg hc hg hm (prg_1 hg2 hm2 pt na2) na, fun B0 H0 B H σ ρ Q re q => ?_⟩
  refine run_e h re ?_
  rcases q.bind with ⟨x, e1, q⟩ | ⟨x, e1, q⟩
  · refine .inl ⟨x, e1, fun v B1 H1 g1 r1 => ?_⟩
    have q := EPost.grow g1 q
    rcases q.bind with ⟨n, e2, q⟩ | ⟨n, e2, _⟩
    · cases z : x.d <;> rw [z] at e2 r1 <;> try cases e2
      cases r1
      split at q
      · rename_i hn
        exact ⟨_, rfl, RgOk.of_le (by omega) (by omega) (by omega) (by omega), fun p hp => q.own g1.s hp (.lst (rgV_ra _))⟩
      · exact q.elim
    · cases z : x.d <;> rw [z] at e2 <;> cases e2
  · exact .inr ⟨x, e1, q⟩
/-! ### in -/
def flatD (d : PyData) : Bool := match d with
  | .none => true
  | .bool _ => true
  | .int _ => true
  | .str _ => true
  | _ => false
def gInB (d e : PyData) : M Bool := match e with
  | .list ds => if flatD d = true ∧ ds.all flatD = true then .ok (ds.any fun z => PyData.eqv z d) else if SeqAt.shaped d = true ∧ SeqAt.shaped (.list ds) = true then .ok (ds.any fun z => PyData.eqv z d) else .stuck
  | .tuple ds => if flatD d = true ∧ ds.all flatD = true then .ok (ds.any fun z => PyData.eqv z d) else .stuck
  | .str z => (match d with
    | .str ⟨⟨[c]⟩⟩ => .ok (decide (c ∈ z.cps.toList))
    | _ => .stuck)
  | _ => .stuck
def gIn (d e : PyData) : M Sl := (gInB d e).bind fun b => retB b
def gNotIn (d e : PyData) : M Sl := (gInB d e).bind fun b => retB (!b)
theorem flat_V {K : PySem.W.Frag} {B : Hp} {x : V} {d : PyData} (r : R K B x d) (h : flatD d = true) : flatV x = true := by cases r <;> first | rfl | cases h
theorem eqV_D {K : PySem.W.Frag} {B : Hp} {x y : V} {d e : PyData} (r : R K B x d) (q : R K B y e) (h : flatD d = true) (h2 : flatD e = true) : eqV x y = PyData.eqv d e := by
  cases r <;> first
    | cases h; done
    | (cases q <;> first
      | cases h2; done
      | rfl)
theorem flat_all {K : PySem.W.Frag} {B : Hp} : ∀ {xs : List V} {ds : List PyData}, RA K B xs ds → ds.all flatD = true → xs.all flatV = true
  | _, _, .nil, _ => rfl
  | _, _, .cons r t, h => by
    rw [List.all_cons, Bool.and_eq_true] at h ⊢
    exact ⟨flat_V r h.1, flat_all t h.2⟩
theorem inV_D {K : PySem.W.Frag} {B : Hp} {x : V} {d : PyData} (r : R K B x d) (h : flatD d = true) : ∀ {xs : List V} {ds : List PyData}, RA K B xs ds → ds.all flatD = true → inV x xs = ds.any fun z => PyData.eqv z d
  | _, _, .nil, _ => rfl
  | _, _, .cons rz t, h2 => by
    rw [List.all_cons, Bool.and_eq_true] at h2
    have e1 := eqV_D rz r h2.1 h
    have e2 := inV_D r h t h2.2
    unfold inV at e2 ⊢
    rw [List.any_cons, List.any_cons, e2]
    exact congrArg (fun b => b || _) e1
def rInA (K : PySem.W.Frag) (neg : Bool) : R2 := fun x y H Q => rIn K neg x y H Q ∨ (∃ d ds, Dp K H x d ∧ Dp K H y (.list ds) ∧ SeqAt.shaped d = true ∧ SeqAt.shaped (.list ds) = true ∧ Q (.bl (if neg then !(ds.any fun z => PyData.eqv z d) else ds.any fun z => PyData.eqv z d)) H) ∨
  ∃ (c : Nat) (z : Str), x = .str ⟨#[c]⟩ ∧ y = .str z ∧ Q (.bl (if neg then !decide (c ∈ z.cps.toList) else decide (c ∈ z.cps.toList))) H
theorem op_inA (hu : X.A.units + 65 < cLine) : OpR X (compareOp .In) (rInA X.K false) := op_in_seq.or ((op_inD hu).or op_in_sign)
theorem op_notInA (hu : X.A.units + 65 < cLine) : OpR X (compareOp .NotIn) (rInA X.K true) := op_notIn_seq.or ((op_notInD hu).or op_notIn_sign)
theorem in_cases {neg : Bool} {x y : V} {d e : PyData} {B H : Hp} {Q : VK} {b : Bool} (ex : Ex B H) (rx : R X.K B x d) (ry : R X.K B y e) (h : gInB d e = .ok b) (q : Q (.bl (if neg then !b else b)) H) : rInA X.K neg x y H Q := by
  unfold gInB at h
  split at h
  · split at h
    · rename_i hf
      cases h
      cases ry with
      | lst h r => exact .inl ⟨_, _, rfl, .inl (.of (ex _ _ h)), flat_V rx hf.1, flat_all r hf.2, by rw [inV_D rx hf.1 r hf.2]; exact q⟩
    · split at h
      · rename_i hs
        cases h
        exact .inr (.inl ⟨_, _, (rx.mono ex).dp (SeqAt.canLay_of_shaped hs.1), (ry.mono ex).dp (SeqAt.canLay_of_shaped hs.2), hs.1, hs.2, q⟩)
      · cases h
  · split at h
    · rename_i hf
      cases h
      cases ry with
      | tup h r => exact .inl ⟨_, _, rfl, .inr (ex_u ex h), flat_V rx hf.1, flat_all r hf.2, by rw [inV_D rx hf.1 r hf.2]; exact q⟩
    · cases h
  · split at h
    · cases h
      cases rx
      cases ry
      exact .inr (.inr ⟨_, _, rfl, rfl, q⟩)
    · cases h
  · cases h
theorem gInB_ne {d e : PyData} {x : Str} : gInB d e ≠ .exc x := by
  unfold gInB
  split
  · split
    · intro h; cases h
    · split <;> (intro h; cases h)
  · split <;> (intro h; cases h)
  · split <;> (intro h; cases h)
  · intro h; cases h
theorem od_in : OpD X E (rInA X.K false) gIn := by
  intro x y d e B H Q ex rx ry q
  unfold gIn at q
  cases hb : gInB d e with
  | stuck => rw [hb] at q; exact q.elim
  | exc x => exact (gInB_ne hb).elim
  | ok b =>
    rw [hb] at q
    exact in_cases ex rx ry hb (q.val ex (.bl _))
theorem od_notIn : OpD X E (rInA X.K true) gNotIn := by
  intro x y d e B H Q ex rx ry q
  unfold gNotIn at q
  cases hb : gInB d e with
  | stuck => rw [hb] at q; exact q.elim
  | exc x => exact (gInB_ne hb).elim
  | ok b =>
    rw [hb] at q
    exact in_cases ex rx ry hb (q.val ex (.bl _))
/-! ### isinstance(e, T), T a built-in class -/
def tyName (d : PyData) : String := match d with
  | .none => "NoneType"
  | .bool _ => "bool"
  | .int _ => "int"
  | .str _ => "str"
  | .list _ => "list"
  | .tuple _ => "tuple"
  | .dict _ => "dict"
def gIsi (T : String) (d : PyData) : M Sl := match d with
  | .dict ((.none, _) :: _) => .stuck
  | .dict ((.bool false, _) :: _) => .stuck
  | d => (match kitB (tyName d) T with
    | some b => retB b
    | none => .stuck)
theorem ty_of {K : PySem.W.Frag} {B : Hp} {x : V} {d : PyData} (r : R K B x d) (h : ∀ z l, d ≠ .dict ((.none, z) :: l)) (h2 : ∀ z l, d ≠ .dict ((.bool false, z) :: l)) : TyX K B x (.type (tyName d)) := by
  cases r with
  | non => exact .base .non
  | bl b => exact .base (.bl b)
  | int i => exact .base (.int i)
  | str z => exact .base (.str z)
  | lst hh _ => exact .base (.lst hh)
  | tup hh _ =>
    exact .base (.tup hh)
  | tupF _ _ => exact (h2 _ _ rfl).elim
  | dK hh _ => exact .base (.dK hh)
  | dT hh _ => exact .base (.dT hh)
  | ins _ _ => exact (h _ _ rfl).elim
  | scr _ => exact (h _ _ rfl).elim
def eIsi (T : String) (fa : Env → M Sl) : Env → M Sl := fun ρ => (fa ρ).bind fun x => gIsi T x.d
theorem de_isi {p p2 : Pos} {n : Str} {T : String} (hg : Gl X "isinstance") (hm : X.mg "isinstance" = none) (hgT : Gl X n) (hmT : X.mg n = none) (hv : bootBuiltins n = some (.type T)) (h : DE X E a fa) (hn : n ≠ "__name__" := by decide) (hd : (n == ("__debug__" : Str)) = false := by decide)
    (he : starEach [a, .Name n p2] X.env = (false, eval a X.env) :: starEach [Expr.Name n p2] X.env := by rfl) (he2 : starEach [Expr.Name n p2] X.env = (false, eval (Expr.Name n p2) X.env) :: starEach [] X.env := by rfl) (hpl : (backTo pos (starEach [Expr.Name n p2] X.env)).any (·.1) = false := by rfl) :
    DE X E (.Call (.Name "isinstance" p) [a, .Name n p2] [] pos) (eIsi T fa) := by
  obtain ⟨t, pt, h⟩ := h
  refine ⟨_, pe_callB call_isi hg hm (by decide +kernel) (pa_cons pt (pa_cons (pe_bltn (v := .ty T) hgT hmT hv rfl hn hd) pa_nil he2) he) (by decide) (by decide) he hpl, fun B0 H0 B H σ ρ Q re q => ?_⟩
  refine run_e h re ?_
  rcases q.bind with ⟨x, e1, q⟩ | ⟨x, e1, q⟩
  · refine .inl ⟨x, e1, fun v B1 H1 g1 r1 => ?_⟩
    have q := EPost.grow g1 q
    unfold gIsi at q
    split at q
    · exact q.elim
    · exact q.elim
    · rename_i d hne hne2
      split at q
      · rename_i b hk
        exact ⟨v, .ty T, .type (tyName x.d), .type T, b, rfl, .ty T, ty_of (r1.mono g1.s) (fun z l hz => hne z l hz) (fun z l hz => hne2 z l hz), kit_ty hk, q.val g1.s (.bl b)⟩
      · exact q.elim
  · exact .inr ⟨x, e1, q⟩
/-! ### a < b < c -/
def eChain (g g' : PyData → PyData → M Sl) (fa fb fc : Env → M Sl) : Env → M Sl := fun ρ => (fa ρ).bind fun x => (fb ρ).bind fun y => ((g x.d y.d).bind fun z => isB z.d).bind fun k => if k = true then (fc ρ).bind fun w => g' y.d w.d else .ok (.dat (.bool false))
theorem de_chain {op op' : CmpOp} {r r' : R2} {g g' : PyData → PyData → M Sl} (ho : OpR X (compareOp op) r) (ho' : OpR X (compareOp op') r') (hg : OpD X E r g) (hg' : OpD X E r' g') (ha : DE X E a fa) (hb : DE X E b fb) (hc : DE X E c fc)
    (hm : lastMarks [op, op'] [b, c] = false := by with_unfolding_all rfl) : DE X E (.Compare a [op, op'] [b, c] pos) (eChain g g' fa fb fc) := by
  obtain ⟨ta, pa, ha⟩ := ha
  obtain ⟨tb, pb, hb⟩ := hb
  obtain ⟨tc, pc, hc⟩ := hc
  refine ⟨_, pe_chain ho ho' pa pb pc hm, fun B0 H0 B H σ ρ Q re q => ?_⟩
  refine run_e ha re ?_
  rcases q.bind with ⟨x, e1, q⟩ | ⟨x, e1, q⟩
  · refine .inl ⟨x, e1, fun v B1 H1 g1 r1 => ?_⟩
    refine run_e hb (re.grow g1) ?_
    rcases (EPost.grow g1 q).bind with ⟨y, e2, q⟩ | ⟨y, e2, q⟩
    · refine .inl ⟨y, e2, fun u B2 H2 g2 r2 => ?_⟩
      refine hg v u x.d y.d B2 H2 _ g2.s (r1.mono g2.b) r2 ?_
      rcases epost_tOf (EPost.grow g2 q) with ⟨z, e3, q⟩ | ⟨z, e3, q⟩
      · rw [e3]
        intro v3 B3 H3 g3 r3
        obtain ⟨B4, g4, r4⟩ := r3.fix g3
        obtain ⟨k, rfl, q⟩ := q v3 B4 H3 g4 r4
        refine ⟨k, rfl, ?_⟩
        cases k with
        | false => exact q.val g4.s (.bl _)
        | true =>
          refine iteT ?_
          rw [if_pos rfl] at q
          refine run_e hc ((re.grow g1).grow (g2.trans g4)) ?_
          rcases q.bind with ⟨w, e5, q⟩ | ⟨w, e5, q⟩
          · exact .inl ⟨w, e5, fun v5 B5 H5 g5 r5 => hg' u v5 y.d w.d B5 H5 Q g5.s (r2.mono (g4.b.trans g5.b)) r5 (q.grow g5)⟩
          · exact .inr ⟨w, e5, q⟩
      · rw [e3]
        exact q
    · exact .inr ⟨y, e2, q⟩
  · exact .inr ⟨x, e1, q⟩
end
end Dl
/-! The data layer: x[i] = e, methods whose arguments change the same list, the law's def. -/
namespace Dl
open PySem PySem.Spec PyProof.Rows L2
section
variable {X : Cx} {E : XK} {a b c e : Expr} {es : List Expr} {fa fb fc : Env → M Sl} {pos : Pos}
/-! ### x[i] = e -/
def setI (l : List PyData) (i d : PyData) : Option (List PyData) := match i with
  | .int k => (match ixN l.length k with
    | some j => some (l.set j d)
    | none => none)
  | _ => none
def oSetIx (i : Nat) (fe fi : Env → M Sl) : Env → O := fun ρ => oOf (fe ρ) fun x => match ρ[i]? with
  | some (some (.own (.list l))) => oOf (fi ρ) fun y => (match setI l y.d x.d with
    | some l' => .nx (ρ.set i (some (.own (.list l'))))
    | none => .stuck)
  | _ => .stuck
theorem ds_setIx {i : Nat} {tpos : Pos} (h : DE X E e fa) (ho : PE X a (tVar i)) (hi : DE X E b fb) (hs : swapsWithSole [Expr.Subscript a b tpos] e pos.line X.env = pure false := by rfl) (hw : swappedStores [Expr.Subscript a b tpos] e X.env = pure none := by rfl)
    (h1 : (assignEach [Expr.Subscript a b tpos] X.env).map (·.2) = [assign (Expr.Subscript a b tpos) X.env] := by rfl)
    (hg : ∀ v, assign (.Subscript a b tpos) X.env v = (do
      let ov ← holding [v] (eval a X.env)
      let iv ← holding [v, ov] (eval b X.env)
      standAt tpos
      holding [v, ov, iv] (setItem ov iv v)
      release [v, ov, iv] []) := by intro _; rfl) : DS X E (.Assign [.Subscript a b tpos] e pos) (oSetIx i fa fb) := by
  obtain ⟨t, p, h⟩ := h
  obtain ⟨ti, pi, hi⟩ := hi
  refine ⟨_, ps_asg p (pg_sub ho pi set_list hg) hs hw h1, fun B0 H0 B H σ ρ D re q => ?_⟩
  refine h B0 H0 B H σ ρ _ re (epost_of re q fun sl _ q v B1 H1 g1 r => ?_)
  obtain ⟨B2, g2, r2⟩ := r.fix g1
  split at q
  · rename_i l hl
    obtain ⟨p1, o, k1, k2, k3, k4, k5⟩ := re.own i _ hl
    cases k5 with
    | lst rl =>
      rename_i vs
      refine ⟨_, k1, ?_⟩
      refine hi B0 H0 B2 H1 σ ρ _ (re.grow g2) (epost_of (re.grow g2) (SPost.grow g2.b q) fun sl2 _ q v2 B3 H3 g3 r3 => ?_)
      obtain ⟨B4, g4, r4⟩ := r3.fix g3
      unfold setI at q
      split at q
      · rename_i l' hset
        split at hset
        · rename_i k hk
          split at hset
          · rename_i j hj
            cases hset
            rw [hk] at r4
            cases r4
            have g24 := g2.trans g4
            refine ⟨p1, vs, k, j, rfl, rfl, g24.h p1 _ k4, by rw [rl.length]; exact hj, ?_⟩
            have nb : B4 p1 = none := g24.l p1 _ k4 k3
            exact q B4 _ σ g4.b ((re.grow g24).own_put hl k1 (g24.h p1 _ k4) nb k2 (.lst ((rl.mono g24.b).set j (r2.mono g4.b))))
          · cases hset
        · cases hset
      · exact q.elim
  · exact q.elim
/-! ### a method whose arguments may change the same list -/
def mMutM (i : Nat) (g : List PyData → List PyData → Option (List PyData × PyData)) (f : Env → M (List PyData × Env)) : Env → M (PyData × Env) := fun ρ => match ρ[i]? with
  | some (some (.own (.list _))) => (f ρ).bind fun x => (match x.2[i]? with
    | some (some (.own (.list l))) => (match g l x.1 with
      | some (l', d) => .ok (d, x.2.set i (some (.own (.list l'))))
      | none => .stuck)
    | _ => .stuck)
  | _ => .stuck
theorem dm_mutM {i : Nat} {name : Str} {r : V → List V → Hp → VK → Prop} {g : List PyData → List PyData → Option (List PyData × PyData)} {o : Expr} {fs : Env → M (List PyData × Env)} {apos cpos : Pos} (hg : MutU X r g) (ha : DAM X E (e :: es) fs)
    (hpe : ∀ t, PA X (e :: es) t → PE X (.Call (.Attribute o name apos) (e :: es) [] cpos) (tBM X.K "list" r (tVar i) t)) : DM X E (.Call (.Attribute o name apos) (e :: es) [] cpos) (mMutM i g fs) := by
  obtain ⟨t, p, h⟩ := ha
  refine ⟨_, hpe t p, fun B0 H0 B H σ ρ Q re q => ?_⟩
  unfold mMutM at q
  split at q
  · rename_i l0 hi
    obtain ⟨p1, o1, h1, h2, h3, h4, h5⟩ := re.own i _ hi
    cases h5 with
    | lst rl =>
      rename_i vs
      refine ⟨_, h1, .inl ⟨rfl, vs, SqL.of h4⟩, h B0 H0 B H σ ρ _ re ?_⟩
      cases z : fs ρ with
      | stuck => rw [z] at q; exact q.elim
      | exc x => rw [z] at q; exact q
      | ok y =>
        obtain ⟨ds, ρ1⟩ := y
        rw [z, bind_ok] at q
        intro xs B1 H1 e1 r1 ra
        simp only at q
        split at q
        · rename_i l hl
          split at q
          · rename_i l' d hgd
            obtain ⟨p2, o2, k1, k2, k3, k4, k5⟩ := r1.own i _ hl
            rw [h1] at k1
            cases k1
            cases k5 with
            | lst rl2 =>
              rename_i vs2
              refine hg p1 vs2 l xs ds l' d B1 H1 Q k4 rl2 ra hgd fun vs' y rv ry => ?_
              exact q y B1 _ e1 (r1.own_put hl h1 k4 k3 k2 (.lst rv)) ry
          · exact q.elim
        · exact q.elim
  · exact q.elim
theorem dam_one {m : Env → M (PyData × Env)} (h : DM X E e m) (hs : starEach [e] X.env = (false, eval e X.env) :: starEach [] X.env := by rfl) : DAM X E [e] (amCons m aNil) := dam_cons h da_nil hs
theorem amCons_len {m : Env → M (PyData × Env)} {g : Env → M (List PyData)} {n : Nat} (h : ∀ ρ ds, g ρ = .ok ds → ds.length = n) : ∀ ρ ds ρ', amCons m g ρ = .ok (ds, ρ') → ds.length = n + 1 := by
  intro ρ ds ρ' e
  unfold amCons at e
  cases q : m ρ with
  | stuck => rw [q] at e; cases e
  | exc x => rw [q] at e; cases e
  | ok a =>
    rw [q, bind_ok] at e
    cases q2 : g a.2 with
    | stuck => rw [q2] at e; cases e
    | exc x => rw [q2] at e; cases e
    | ok l =>
      rw [q2, bind_ok] at e
      cases e
      rw [List.length_cons, h a.2 l q2]
end
/-! ### the law's own def: nothing leaves it -/
theorem law_mk {P : Program} {w : World} {K : PySem.W.Frag} {mg : Str → Option Value} {base : Heap} {x qual : Str} {st : Stmt} {N ps : List Str} {k : Nat} {o : Env → O} {f : Addr} {fd : FuncData} (F : FunD K x qual (defArgs st) (defBody st) (defScope st) [] [] f fd) (S : FnScope N ps (defScope st))
    (h : ∀ (cdv : Value) (A : Around) (outer : List PySem.Env) (s : Shared) (H : Hp) (E : XK), Room k (A.deeper (envOfC qual (defScope st) s.heap.objs.size f cdv)) →
      DSs (cxOf CX0 P w K mg base N qual (defScope st) f cdv A outer s H E).nox E0 (defBody st) o) : FnOk P w K mg base CX0 (k + 1) f fd ps (fun vs H Q _ => spD K ps.length (fnO ps.length N.length o) vs H Q E0) := by
  refine F.ok S (fun vs H Q E h => h.1) fun cdv A outer s H vs Q E hr hs => ?_
  obtain ⟨t, p, q⟩ := body_ok (h cdv A outer s H E hr) hs
  exact ⟨t, p.nox, q⟩
end Dl
/-! The data layer: constants of the module, dicts with tuples for keys. -/
namespace Dl
open PySem PySem.Spec PyProof.Rows L2
section
variable {X : Cx} {E : XK} {a b c e : Expr} {es : List Expr} {fa fb fc : Env → M Sl} {pos : Pos}
/-! ### tuples of the module's top -/
abbrev fz (ds : List PyData) : PyData := .dict [(.bool false, .tuple ds)]
theorem fz_inv {K : PySem.W.Frag} {H : Hp} {v : V} {ds : List PyData} (r : R K H v (fz ds)) : ∃ a xs, v = .ref a ∧ (∀ G : Hp, SqT K G a xs) ∧ RA K H xs ds := by
  generalize hd : fz ds = d at r
  cases r with
  | tupF h r =>
    injection hd with hd
    injection hd with hd _
    injection hd with _ hd
    injection hd with hd
    subst hd
    exact ⟨_, _, rfl, h, r⟩
  | dK h r =>
    rename_i kvs vs
    injection hd with hd
    cases kvs with
    | nil => cases hd
    | cons kv kvs =>
      cases vs with
      | nil => cases hd
      | cons v vs =>
        injection hd with hd _
        injection hd with hd _
        obtain ⟨k, _⟩ := kv
        cases k <;> cases hd
  | dT h r =>
    injection hd with hd
    injection hd with hd _
    injection hd with hd _
    cases hd
  | ins h r =>
    injection hd with hd
    injection hd with hd _
    injection hd with hd _
    cases hd
  | scr h =>
    injection hd with hd
    injection hd with hd _
    injection hd with hd _
    cases hd
  | _ => cases hd
/-- the value u of the top is the data d -/
def frAll (f : Value → PyData → Bool) : List Value → List PyData → Bool
  | [], [] => true
  | u :: us, d :: ds => f u d && frAll f us ds
  | _, _ => false
def frFlat (u : Value) (d : PyData) : Bool := match u, d with
  | .int j _, .int i => decide (j = i)
  | .str y _, .str x => decide (y = x)
  | _, _ => false
def frTup (K : PySem.W.Frag) (f : Value → PyData → Bool) (a : Addr) (ds : List PyData) : Bool := match K.lookup a with
  | some ⟨.type c, _, .seq its _, _⟩ => decide (c = "tuple") && (decide (its.size ≤ sizeLine) && frAll f its.toList ds)
  | _ => false
def frStep (K : PySem.W.Frag) (f : Value → PyData → Bool) (u : Value) (d : PyData) : Bool := match u, d with
  | .ref a, .dict [(.bool false, .tuple ds)] => frTup K f a ds
  | u, d => frFlat u d
def frB (K : PySem.W.Frag) : Nat → Value → PyData → Bool
  | 0 => frFlat
  | n + 1 => frStep K (frB K n)
theorem frAll_ok {K : PySem.W.Frag} {f : Value → PyData → Bool} (hf : ∀ u d, f u d = true → ∃ v, RelV v u ∧ ∀ H, R K H v d) : ∀ (us : List Value) (ds : List PyData), frAll f us ds = true → ∃ vs, Vals vs us ∧ ∀ H, RA K H vs ds
  | [], [], _ => ⟨[], .nil, fun _ => .nil⟩
  | [], _ :: _, h => nomatch h
  | _ :: _, [], h => nomatch h
  | u :: us, d :: ds, h => by
    obtain ⟨h1, h2⟩ := Bool.and_eq_true_iff.mp (show (f u d && frAll f us ds) = true from h)
    obtain ⟨v, r, q⟩ := hf u d h1
    obtain ⟨vs, rs, qs⟩ := frAll_ok hf us ds h2
    exact ⟨v :: vs, .cons r rs, fun H => .cons (q H) (qs H)⟩
theorem frFlat_ok {K : PySem.W.Frag} {u : Value} {d : PyData} (h : frFlat u d = true) : ∃ v, RelV v u ∧ ∀ H, R K H v d := by
  unfold frFlat at h
  split at h
  · cases of_decide_eq_true h
    exact ⟨.int _, ⟨_, rfl⟩, fun H => .int _⟩
  · cases of_decide_eq_true h
    exact ⟨.str _, ⟨_, rfl⟩, fun H => .str _⟩
  · cases h
theorem frTup_ok {K : PySem.W.Frag} {f : Value → PyData → Bool} (hf : ∀ u d, f u d = true → ∃ v, RelV v u ∧ ∀ H, R K H v d) {a : Addr} {ds : List PyData} (h : frTup K f a ds = true) : ∀ H, R K H (.ref a) (fz ds) := by
  unfold frTup at h
  split at h
  · rename_i c dd its n1 sl hk
    obtain ⟨h1, h2⟩ := Bool.and_eq_true_iff.mp h
    obtain ⟨h3, h4⟩ := Bool.and_eq_true_iff.mp h2
    obtain ⟨vs, rs, qs⟩ := frAll_ok hf _ _ h4
    exact fun H => .tupF (fun G => .inr ⟨_, _, _, hk, congrArg Value.type (of_decide_eq_true h1), rfl, of_decide_eq_true h3, rs⟩) (qs H)
  · cases h
theorem frB_ok {K : PySem.W.Frag} : ∀ (n : Nat) (u : Value) (d : PyData), frB K n u d = true → ∃ v, RelV v u ∧ ∀ H, R K H v d
  | 0, u, d, h => frFlat_ok h
  | n + 1, u, d, h => by
    have h : frStep K (frB K n) u d = true := h
    unfold frStep at h
    split at h
    · exact ⟨.ref _, rfl, frTup_ok (frB_ok n) h⟩
    · exact frFlat_ok h
/-- the module's name x is the data d -/
def conB (K : PySem.W.Frag) (x : Str) (d : PyData) : Bool := match PySem.W.nsIn K mainGlobals x with
  | some (some u) => frB K 6 u d
  | _ => false
def IsCon (K : PySem.W.Frag) (mg : Str → Option Value) (x : Str) (d : PyData) : Prop := ∃ u v, mg x = some u ∧ RelV v u ∧ ∀ H, R K H v d
theorem con_ok {K : PySem.W.Frag} {h : Heap} {mg : Str → Option Value} (k : K.In h) (G : h.Ns mainGlobals mg) {x : Str} {d : PyData} (c : conB K x d = true) : IsCon K mg x d := by
  unfold conB at c
  split at c
  · rename_i u hu
    obtain ⟨v, r, q⟩ := frB_ok 6 u d c
    exact ⟨u, v, PySem.W.mg_of k G hu, r, q⟩
  · cases c
theorem de_con {x : Str} {d : PyData} (hg : Gl X x) (hm : IsCon X.K X.mg x d) (hd : (x == ("__debug__" : Str)) = false := by decide) : DE X E (.Name x pos) (eC d) := by
  obtain ⟨u, v, h1, r, q⟩ := hm
  exact ⟨_, pe_glob hg h1 r hd, fun B0 H0 B H σ ρ Q re k => EPost.val re.gr.s (q B) k⟩
/-- a loop over a tuple of the module's top -/
theorem di_con {x : Str} {ds : List PyData} {tg : Expr} (hg : Gl X x) (hm : IsCon X.K X.mg x (fz ds)) (hd : (x == ("__debug__" : Str)) = false := by decide) : DI X E tg (.Name x pos) (fun _ => .ok ds) := by
  obtain ⟨u, v, h1, r, q⟩ := hm
  refine ⟨_, pi_any (pe_glob hg h1 r hd), fun B0 H0 B H σ ρ Q re k => ?_⟩
  obtain ⟨a, xs, rfl, h2, ra⟩ := fz_inv (q B)
  exact .inl ⟨_, rfl, .inr ⟨_, h2 _, k _ B H (.refl re.gr.s) (wlk_at walk_tup ra fun B2 H2 _ _ => h2 _)⟩⟩
/-! ### dicts with tuples for keys -/
def keyV (d : PyData) : Option Key := match d with
  | .int i => some (.inl i)
  | .str x => some (.inr x)
  | _ => none
def keysA : List PyData → Option (List Key)
  | [] => some []
  | d :: ds => (keyV d).bind fun k => (keysA ds).bind fun ks => some (k :: ks)
def keysOf (d : PyData) : Option (List Key) := match d with
  | .tuple ds => keysA ds
  | _ => none
def keysOfF (d : PyData) : Option (List Key) := match d with
  | .dict [(.bool false, .tuple ds)] => keysA ds
  | d => keysOf d
theorem keyV_ok {K : PySem.W.Frag} {H : Hp} {v : V} {d : PyData} {k : Key} (r : R K H v d) (h : keyV d = some k) : v = kV k := by
  unfold keyV at h
  split at h
  · cases h
    cases r
    rfl
  · cases h
    cases r
    rfl
  · cases h
theorem keysA_ok {K : PySem.W.Frag} {H : Hp} : ∀ {vs : List V} {ds : List PyData} {ks : List Key}, RA K H vs ds → keysA ds = some ks → vs = ks.map kV
  | _, _, _, .nil, h => by cases h; rfl
  | _, _, _, .cons r q, h => by
    unfold keysA at h
    obtain ⟨k, h1, h⟩ := Option.bind_eq_some_iff.mp h
    obtain ⟨ks, h2, h⟩ := Option.bind_eq_some_iff.mp h
    cases h
    rw [keyV_ok r h1, keysA_ok q h2]
    rfl
theorem keysA_keyD : ∀ ks : List Key, keysA (ks.map keyD) = some ks
  | [] => rfl
  | k :: ks => by
    have e : keyV (keyD k) = some k := by cases k <;> rfl
    simp only [List.map_cons, keysA, e, keysA_keyD ks, Option.bind_some]
theorem keysOf_ok {K : PySem.W.Frag} {H : Hp} {v : V} {d : PyData} {ks : List Key} (r : R K H v d) (h : keysOf d = some ks) : ∃ a, v = .ref a ∧ H a = some (.tup (ks.map kV)) := by
  unfold keysOf at h
  split at h
  · cases r with
    | tup h1 ra => exact ⟨_, rfl, by rw [← keysA_ok ra h]; exact h1⟩
  · cases h
theorem keysOfF_ok {K : PySem.W.Frag} {H : Hp} {v : V} {d : PyData} {ks : List Key} (r : R K H v d) (h : keysOfF d = some ks) : ∃ a, v = .ref a ∧ SqT K H a (ks.map kV) := by
  unfold keysOfF at h
  split at h
  · obtain ⟨a, xs, h1, h2, ra⟩ := fz_inv r
    exact ⟨a, h1, by rw [← keysA_ok ra h]; exact h2 _⟩
  · obtain ⟨a, h1, h2⟩ := keysOf_ok r h
    exact ⟨a, h1, .of h2⟩
/-- the pairs of such a dict -/
def isK (ks : List Key) (p : PyData × PyData) : Bool := decide (keysOf p.1 = some ks)
def getE (es : List (PyData × PyData)) (ks : List Key) : Option PyData := (es.find? (isK ks)).map (·.2)
def putE (es : List (PyData × PyData)) (ks : List Key) (d : PyData) : List (PyData × PyData) := if es.any (isK ks) = true then es.map (fun p => if isK ks p = true then (p.1, d) else p) else es ++ [(.tuple (ks.map keyD), d)]
def entsT (kvs : List (List Key × V)) (vs : List PyData) : List (PyData × PyData) := (kvs.map fun p => PyData.tuple (p.1.map keyD)).zip vs
theorem isK_ent (k : List Key) (ks : List Key) (d : PyData) : isK ks (.tuple (k.map keyD), d) = decide (k = ks) := by
  unfold isK keysOf
  simp only [keysA_keyD, Option.some.injEq]
theorem ent_get {K : PySem.W.Frag} {H : Hp} (ks : List Key) : ∀ (kvs : List (List Key × V)) (vs : List PyData), RA K H (kvs.map (·.2)) vs → (valV kvs ks = none ∧ getE (entsT kvs vs) ks = none) ∨ ∃ v d, valV kvs ks = some v ∧ getE (entsT kvs vs) ks = some d ∧ R K H v d
  | [], _, .nil => .inl ⟨rfl, rfl⟩
  | (k, v) :: kvs, d :: vs, .cons r q => by
    by_cases h : k = ks
    · refine .inr ⟨v, d, valV_pos h, ?_, r⟩
      unfold getE entsT
      rw [List.map_cons, List.zip_cons_cons, List.find?_cons_of_pos (by rw [isK_ent]; exact decide_eq_true h)]
      rfl
    · have e : getE (entsT ((k, v) :: kvs) (d :: vs)) ks = getE (entsT kvs vs) ks := by
        unfold getE entsT
        rw [List.map_cons, List.zip_cons_cons, List.find?_cons_of_neg (by rw [isK_ent]; simpa using h)]
      rw [valV_neg h, e]
      exact ent_get ks kvs vs q
theorem ent_any (ks : List Key) : ∀ (kvs : List (List Key × V)) (vs : List PyData), kvs.length = vs.length → (kvs.any fun kv => decide (kv.1 = ks)) = (entsT kvs vs).any (isK ks)
  | [], [], _ => rfl
  | (k, v) :: kvs, d :: vs, h => by
    unfold entsT
    rw [List.map_cons, List.zip_cons_cons, List.any_cons, List.any_cons, isK_ent, ent_any ks kvs vs (by simpa using h)]
    rfl
theorem RA.put {K : PySem.W.Frag} {H : Hp} {v : V} {d : PyData} (ks : List Key) (rv : R K H v d) : ∀ (kvs : List (List Key × V)) (vs : List PyData), RA K H (kvs.map (·.2)) vs →
    ∃ ws, RA K H ((kvs.map fun kv => if kv.1 = ks then (kv.1, v) else kv).map (·.2)) ws ∧ entsT (kvs.map fun kv => if kv.1 = ks then (kv.1, v) else kv) ws = (entsT kvs vs).map fun p => if isK ks p = true then (p.1, d) else p
  | [], _, .nil => ⟨[], .nil, rfl⟩
  | (k, w) :: kvs, e :: vs, .cons r q => by
    obtain ⟨ws, h1, h2⟩ := RA.put ks rv kvs vs q
    unfold entsT at h2 ⊢
    by_cases h : k = ks
    · refine ⟨d :: ws, ?_, ?_⟩
      · simp only [List.map_cons, h, if_true]
        exact .cons rv h1
      · simp only [List.map_cons, List.zip_cons_cons, isK_ent, h, decide_true, if_true, h2]
    · refine ⟨e :: ws, ?_, ?_⟩
      · simp only [List.map_cons, h, if_false]
        exact .cons r h1
      · simp only [List.map_cons, List.zip_cons_cons, isK_ent, h, decide_false, if_false, Bool.false_eq_true, h2]
theorem ent_put {K : PySem.W.Frag} {H : Hp} {v : V} {d : PyData} {ks : List Key} {kvs : List (List Key × V)} {vs : List PyData} (rv : R K H v d) (q : RA K H (kvs.map (·.2)) vs) : ∃ ws, RA K H ((putK kvs ks v).map (·.2)) ws ∧ entsT (putK kvs ks v) ws = putE (entsT kvs vs) ks d := by
  have hl : kvs.length = vs.length := by simpa using q.length
  unfold putK putE
  rw [ent_any ks kvs vs hl]
  by_cases h : (entsT kvs vs).any (isK ks) = true
  · rw [if_pos h, if_pos h]
    exact RA.put ks rv kvs vs q
  · rw [if_neg h, if_neg h]
    refine ⟨vs ++ [d], by rw [List.map_append]; exact q.append (.cons rv .nil), ?_⟩
    unfold entsT
    rw [List.map_append, List.zip_append (by simpa using hl)]
    rfl
/-! ### {} -/
abbrev dT0 : PyData := .dict [(.bool true, .none)]
def eNewT : Env → M Sl := fun _ => .ok (.own dT0)
theorem de_newT : DE X E (.Dict [] [] pos) eNewT := ⟨_, pe_dnewT, fun B0 H0 B H σ ρ Q re q => fun p hp => EPost.own re.gr.s hp (.dT (kvs := []) (vs := []) .nil) q⟩
/-! ### k in d, k not in d -/
theorem ent_inv {K : PySem.W.Frag} {H : Hp} {v : V} {es : List (PyData × PyData)} (r : R K H v (.dict ((.bool true, .none) :: es))) : ∃ a kvs vs, v = .ref a ∧ H a = some (.dT kvs) ∧ RA K H (kvs.map (·.2)) vs ∧ es = entsT kvs vs := by
  generalize hd : PyData.dict ((.bool true, .none) :: es) = d at r
  cases r with
  | dT h r =>
    injection hd with hd
    injection hd with _ hd
    exact ⟨_, _, _, rfl, h, r, hd⟩
  | dK h r =>
    rename_i kvs vs
    injection hd with hd
    cases kvs with
    | nil => cases hd
    | cons kv kvs =>
      cases vs with
      | nil => cases hd
      | cons v vs =>
        injection hd with hd _
        injection hd with hd _
        obtain ⟨k, _⟩ := kv
        cases k <;> cases hd
  | tupF h r =>
    injection hd with hd
    injection hd with hd _
    injection hd with hd _
    cases hd
  | ins h r =>
    injection hd with hd
    injection hd with hd _
    injection hd with hd _
    cases hd
  | scr h =>
    injection hd with hd
    injection hd with hd _
    injection hd with hd _
    cases hd
  | _ => cases hd
def rInT (K : PySem.W.Frag) (neg : Bool) : R2 := fun x y H Q => ∃ a b kvs ks, x = .ref b ∧ y = .ref a ∧ H a = some (.dT kvs) ∧ SqT K H b (ks.map kV) ∧ Q (.bl (if neg then !(valV kvs ks).isSome else (valV kvs ks).isSome)) H
theorem key_sq {pins : List (Addr × Obj)} {σ : L2.St} {H : Hp} {s : Shared} {b : Addr} {ks : List Key} (I : Inv X pins σ H s) (h : SqT X.K H b (ks.map kV)) : (tupleKind (mixKind X.prog X.w)).is s.heap ks b := by
  obtain ⟨its, r, ⟨o, h1, h2, n, h3⟩, _⟩ := I.tuple h
  exact ⟨o, its.toArray, n, h1, h2, h3, by simpa using items_are r⟩
theorem op_inT (hu : X.A.units + 1 < cLine) : OpR X (compareOp .In) (rInT X.K false) := by
  intro pins s σ H x y v u Q I rx ry h
  obtain ⟨a, b, kvs, ks, rfl, rfl, e, hb, q⟩ := h
  cases (show v = Value.ref b from rx)
  cases (show u = Value.ref a from ry)
  obtain ⟨z, hd, xs, rel, dd⟩ := dt_rd I.hok (.inl e)
  refine wpAny_in_heap (tupleKind_room_in1 hu) (key_sq I hb) hd dd ?_
  have k := (rel.val ks).isSome_eq
  rw [Option.isSome_map] at k
  rw [← k]
  exact ⟨.bl (valV kvs ks).isSome, H, I.tok _, rfl, q⟩
theorem op_notInT (hu : X.A.units + 1 < cLine) : OpR X (compareOp .NotIn) (rInT X.K true) := by
  intro pins s σ H x y v u Q I rx ry h
  obtain ⟨a, b, kvs, ks, rfl, rfl, e, hb, q⟩ := h
  cases (show v = Value.ref b from rx)
  cases (show u = Value.ref a from ry)
  obtain ⟨z, hd, xs, rel, dd⟩ := dt_rd I.hok (.inl e)
  refine wpAny_notIn_heap (tupleKind_room_in1 hu) (key_sq I hb) hd dd ?_
  have k := (rel.val ks).isSome_eq
  rw [Option.isSome_map] at k
  rw [← k]
  exact ⟨.bl (!(valV kvs ks).isSome), H, I.tok _, rfl, q⟩
def gInTB (d e : PyData) : M Bool := match e with
  | .dict ((.bool true, .none) :: es) => (match keysOfF d with
    | some ks => .ok (es.any (isK ks))
    | none => .stuck)
  | _ => .stuck
def gInT (d e : PyData) : M Sl := (gInTB d e).bind fun b => retB b
def gNotInT (d e : PyData) : M Sl := (gInTB d e).bind fun b => retB (!b)
theorem inT_cases {K : PySem.W.Frag} {neg : Bool} {x y : V} {d e : PyData} {B H : Hp} {Q : VK} {b : Bool} (ex : Ex B H) (rx : R K B x d) (ry : R K B y e) (h : gInTB d e = .ok b) (q : Q (.bl (if neg then !b else b)) H) : rInT K neg x y H Q := by
  unfold gInTB at h
  split at h
  · split at h
    · rename_i ks hk
      cases h
      obtain ⟨b, rfl, hb⟩ := keysOfF_ok (rx.mono ex) hk
      obtain ⟨a, kvs, vs, rfl, ha, ra, rfl⟩ := ent_inv (ry.mono ex)
      refine ⟨a, b, kvs, ks, rfl, rfl, ha, hb, ?_⟩
      have hv : (valV kvs ks).isSome = (entsT kvs vs).any (isK ks) := by
        rw [← valV_any, ent_any ks kvs vs (by simpa using ra.length)]
      rw [hv]
      exact q
    · cases h
  · cases h
theorem od_inT : OpD X E (rInT X.K false) gInT := by
  intro x y d e B H Q ex rx ry q
  unfold gInT at q
  cases hb : gInTB d e with
  | stuck => rw [hb] at q; exact q.elim
  | exc z =>
    unfold gInTB at hb
    split at hb
    · split at hb <;> cases hb
    · cases hb
  | ok b =>
    rw [hb] at q
    exact inT_cases ex rx ry hb (q.val ex (.bl _))
theorem od_notInT : OpD X E (rInT X.K true) gNotInT := by
  intro x y d e B H Q ex rx ry q
  unfold gNotInT at q
  cases hb : gInTB d e with
  | stuck => rw [hb] at q; exact q.elim
  | exc z =>
    unfold gInTB at hb
    split at hb
    · split at hb <;> cases hb
    · cases hb
  | ok b =>
    rw [hb] at q
    exact inT_cases ex rx ry hb (q.val ex (.bl _))
/-! ### d[k] = e -/
def rSetT : TSet := fun o y v H Q => ∃ a H', o = .ref a ∧ DPut H a y v H' ∧ Q H'
theorem set_dict (hu : X.A.units + 1 < cLine) : PSet X rSetT := by
  intro pins s σ H o i v ov iv u Q I ro ri rv h
  obtain ⟨a, H', rfl, g, q⟩ := h
  cases (show ov = Value.ref a from ro)
  exact d_setItem hu I g ri rv fun s' I' => ⟨H', I', q⟩
def oPutT (i : Nat) (fe fi : Env → M Sl) : Env → O := fun ρ => oOf (fe ρ) fun x => match ρ[i]? with
  | some (some (.own (.dict ((.bool true, .none) :: es)))) => oOf (fi ρ) fun y => (match keysOf y.d with
    | some ks => if big (es.length + 1) = true then .nx (ρ.set i (some (.own (.dict ((.bool true, .none) :: putE es ks x.d))))) else .stuck
    | none => .stuck)
  | _ => .stuck
theorem ds_putT {i : Nat} {tpos : Pos} (hu : X.A.units + 1 < cLine) (h : DE X E e fa) (ho : PE X a (tVar i)) (hi : DE X E b fb) (hs : swapsWithSole [Expr.Subscript a b tpos] e pos.line X.env = pure false := by rfl) (hw : swappedStores [Expr.Subscript a b tpos] e X.env = pure none := by rfl)
    (h1 : (assignEach [Expr.Subscript a b tpos] X.env).map (·.2) = [assign (Expr.Subscript a b tpos) X.env] := by rfl)
    (hg : ∀ v, assign (.Subscript a b tpos) X.env v = (do
      let ov ← holding [v] (eval a X.env)
      let iv ← holding [v, ov] (eval b X.env)
      standAt tpos
      holding [v, ov, iv] (setItem ov iv v)
      release [v, ov, iv] []) := by intro _; rfl) : DS X E (.Assign [.Subscript a b tpos] e pos) (oPutT i fa fb) := by
  obtain ⟨t, p, h⟩ := h
  obtain ⟨ti, pi, hi⟩ := hi
  refine ⟨_, ps_asg p (pg_sub ho pi (set_dict hu) hg) hs hw h1, fun B0 H0 B H σ ρ D re q => ?_⟩
  refine h B0 H0 B H σ ρ _ re (epost_of re q fun sl _ q v B1 H1 g1 r => ?_)
  obtain ⟨B2, g2, r2⟩ := r.fix g1
  split at q
  · rename_i es hl
    obtain ⟨p1, o, k1, k2, k3, k4, k5⟩ := re.own i _ hl
    refine ⟨_, k1, ?_⟩
    refine hi B0 H0 B2 H1 σ ρ _ (re.grow g2) (epost_of (re.grow g2) (SPost.grow g2.b q) fun sl2 _ q v2 B3 H3 g3 r3 => ?_)
    obtain ⟨B4, g4, r4⟩ := r3.fix g3
    split at q
    · rename_i ks hk
      split at q
      · rename_i hb
        have g24 := g2.trans g4
        obtain ⟨bk, rfl, hbk⟩ := keysOf_ok (r4.mono g4.s) hk
        have hp1 := g24.h p1 _ k4
        generalize hd : PyData.dict ((.bool true, .none) :: es) = d at k5
        cases k5 with
        | lst _ => cases hd
        | dK ra =>
          rename_i kvs vs
          injection hd with hd
          cases kvs with
          | nil => cases hd
          | cons kv kvs =>
            cases vs with
            | nil => cases hd
            | cons v vs =>
              injection hd with hd _
              injection hd with hd _
              obtain ⟨k, _⟩ := kv
              cases k <;> cases hd
        | dT ra =>
          rename_i kvs vs
          injection hd with hd
          injection hd with _ hd
          subst hd
          have nb : B4 p1 = none := g24.l p1 _ k4 k3
          obtain ⟨ws, w1, w2⟩ := ent_put (ks := ks) (r2.mono g4.b) (ra.mono g24.b)
          have hlen : kvs.length < sizeLine := by
            have e1 := ra.length
            have e2 := big_ok hb
            simp [List.length_zip] at e1 e2
            omega
          refine ⟨p1, _, rfl, .inr ⟨kvs, ks, bk, hp1, rfl, hbk, hlen, rfl⟩, ?_⟩
          refine q B4 _ σ g4.b ?_
          have hT : Top X.K B4 (.dT (putK kvs ks v)) (.dict ((.bool true, .none) :: entsT (putK kvs ks v) ws)) := .dT w1
          rw [w2] at hT
          exact (re.grow g24).own_put hl k1 hp1 nb k2 hT
      · exact q.elim
    · exact q.elim
  · exact q.elim
end
/-! ### the top's facts with one more Bool -/
abbrev AlC : Type := He.AlD × Bool
def obsC (n : Nat) (fa : List He.Fa) (fn : List He.DefD) (ex : PySem.W.Frag → Bool) (g : Addr → Option Obj) : AlC := (He.obsDG n fa fn g, ex (He.frG g (He.asD g n)))
def hookC (n : Nat) (fa : List He.Fa) (fn : List He.DefD) (ex : PySem.W.Frag → Bool) : PySem.W.Hook where
  α := AlC
  obs s := obsC n fa fn ex s.heap.get?
  val _ := (He.valD fn, true)
  says _ h := ∃ K : PySem.W.Frag, K.In h ∧ He.SaysD fa fn K ∧ ex K = true
  of _ _ e := ⟨_, He.frG_in, congrArg (fun z : AlC => z.1) e, congrArg (fun z : AlC => z.2) e⟩
  keeps := fun _ _ _ y k => y.elim fun K z => ⟨K, PySem.W.Frag.In.keeps z.1 k, z.2⟩
theorem obsC_eq {n : Nat} {fa : List He.Fa} {fn : List He.DefD} {ex : PySem.W.Frag → Bool} {g : Addr → Option Obj} {s : Shared} (h : ∀ a, g a = s.heap.get? a) : obsC n fa fn ex g = (hookC n fa fn ex).obs s := by
  rw [show g = s.heap.get? from funext h]
  rfl
end Dl
/-! The data layer: list(reversed(x)), x a list. -/
namespace Dl
open PySem PySem.Spec PyProof.Rows L2 RT Builtin.List
section
variable {prog : Program} {w : World} {A : Around} {E : Value → Shared → Prop} {s : Shared}
/-- S, empty, takes what the turned walk of l gives -/
theorem lrev_ext {it l S : Addr} {xs : Array Value} {c : Nat} {R : Result → Shared → Prop} (hh : A.handled = none) (hi : s.heap.IsRevIter it l ((xs.size : Int) - 1)) (hl : s.heap.IsList l xs) (hne : l ≠ it) (hn : xs.size ≤ sizeLine) (hSi : S ≠ it) (hSl : S ≠ l) (res : Value)
    (hS : s.heap.get? S = some { cls := .type "list", data := .seq #[] c })
    (k : ∀ (g : Heap) (tk : Nat) (acc : Array Value) (c' : Nat), (∀ b o, b ≠ S → b ≠ it → s.heap.get? b = some o → g.get? b = some o) → g.get? S = some { cls := .type "list", dict := none, data := .seq acc c', slots := #[] } → ItemsOf (fun i v => xs[xs.size - 1 - i]? = some v) acc xs.size → R (.ok (.ret res)) { s with heap := g, toks := tk }) :
    wpAny (model prog w) A.in1 (listExtendWith (.ref S) (.ref it) res)
      (fun fin s' => match fin with | .done f => R (.ok f) s' | .again c' => c'.quiet = true ∧ codeAny (model prog w) A c' R s') (fun e s' => R (.error e) s') s := by
  have W := (Walks.listRev (prog := prog) (w := w) (A := A.in1) hh it l hne xs).toS
  have out : S ∉ [it, l] := by simp [hSi, hSl]
  have ty : s.TypeIs (.ref it) "list_reverseiterator" := hi.typeIs
  have dif : listSameRef (.ref S) (.ref it) = false := by simp [listSameRef, hSi]
  unfold listExtendWith
  refine wpAny_bind (wpAny_typeOf ty ?_)
  rw [if_neg (show ¬ _ from by rw [dif]; decide)]
  refine wpAny_bind (wpAny_pyIter_revIter hi ?_)
  refine wpAny_bind (wpAny_holding ?_)
  unfold listLengthHint
  refine wpAny_bind (wpAny_specialOf ty nolen_lri ?_)
  show wpAny _ A.in1 (specialOf (Value.ref it) (Str.ofString "__length_hint__") >>= fun _ => _) _ _ _
  refine wpAny_bind (wpAny_specialOf ty hint_lri ?_)
  generalize nm : ("list_reverseiterator.__length_hint__" : String) = y
  wp_delta
  rw [show splitId y = some ("list_reverseiterator", "__length_hint__") from by rw [← nm]; decide +kernel]
  cases nm
  refine wpAny_bind (wpAny_isInstance (b := true) ty (show _ from by rw [isSubtype_type]; kernel_rfl) ?_)
  refine wpAny_pure ?_
  rw [if_neg (show ¬ _ from by decide)]
  have z0 : ((xs.size : Nat) : Int) - 1 - ((0 : Nat) : Int) = (xs.size : Int) - 1 := Int.sub_zero _
  refine wpAny_pure ⟨plainId_quiet F.plain_extend_loop _, codeAny_extend_loopS W hn _ out _ xs.size 0 _ _ _ rfl (Nat.zero_le _) ⟨Nat.zero_le _, by rw [z0]; exact hi, hl⟩ hS (ItemsOf.nil _) fun s' acc' c' m q r => ?_⟩
  rw [Moved.eq_with m]
  refine k s'.heap s'.toks acc' c' (fun b o h1 h2 e => m.heap b o (fun z => ?_) e) q r
  rcases List.mem_cons.mp z with z | z
  · exact h1 z
  · exact h2 (List.mem_singleton.mp z)
theorem lrev_call {it l : Addr} {xs : Array Value} {Q : Value → Shared → Prop} (hh : A.handled = none) (hi : s.heap.IsRevIter it l ((xs.size : Int) - 1)) (hl : s.heap.IsList l xs) (hne : l ≠ it) (hn : xs.size ≤ sizeLine)
    (k : ∀ (g : Heap) (tk : Nat) (acc : Array Value) (c' : Nat), (∀ b o, b ≠ it → s.heap.get? b = some o → g.get? b = some o) → g.get? s.heap.objs.size = some { cls := .type "list", dict := none, data := .seq acc c', slots := #[] } → ItemsOf (fun i v => xs[xs.size - 1 - i]? = some v) acc xs.size → Q (.ref s.heap.objs.size) { s with heap := g, toks := tk }) :
    wpAny (model prog w) A (call (.type "list") [.ref it]) Q E s := by
  refine callType_codes (Q₁ := fun o s₁ => o = .ref s.heap.objs.size ∧ s₁ = { s with heap := s.heap.push { cls := .type "list", data := .seq #[] } }) F.called_list (F.typeCall_list_1 _) F.entry_list_init (code_list_new _ ⟨rfl, rfl⟩) fun o s₁ y => ?_
  cases y.1
  cases y.2
  have new : (s.heap.push { cls := .type "list", data := .seq #[] }).get? s.heap.objs.size = some { cls := .type "list", data := .seq #[] } := Heap.get?_push_size _ rfl
  have b1 : it < s.heap.objs.size := hi.elim fun _ z => Heap.lt_size z.1
  have b2 : l < s.heap.objs.size := hl.elim fun _ z => Heap.lt_size z.1
  refine ⟨⟨_, new, rfl⟩, F.args_list_init_2 _ _, ?_⟩
  show wpAny _ _ (listItems (.ref s.heap.objs.size) >>= fun old => listUpdate (.ref s.heap.objs.size) (fun _ => #[]) >>= fun _ => letGo old.toList.reverse >>= fun _ => listExtendWith (.ref s.heap.objs.size) (.ref it) .none) _ _ _
  refine wpAny_bind ?_
  unfold listItems
  refine wpAny_bind (wpAny_seqItems new rfl (wpAny_pure ?_))
  show wpAny _ _ (updateSeq s.heap.objs.size (fun _ => #[]) >>= fun _ => letGo ((#[] : Array Value).toList.reverse) >>= fun _ => listExtendWith _ _ _) _ _ _
  refine wpAny_bind (wpAny_updateSeq new rfl ?_)
  have new2 := Heap.get?_update_self (Obj.mapSeq (fun _ => (#[] : Array Value))) new rfl
  have oth : ∀ b o, b < s.heap.objs.size → s.heap.get? b = some o → ((s.heap.push { cls := .type "list", data := .seq #[] }).update s.heap.objs.size (Obj.mapSeq (fun _ => (#[] : Array Value)))).get? b = some o :=
    fun b o hb e => (Heap.get?_update_other _ _ (Nat.ne_of_gt hb)).trans (Heap.get?_push_of_some _ e)
  refine wpAny_bind (wpAny_letGo ?_)
  refine lrev_ext (A := A.in1) (xs := xs) (c := _) hh (hi.at fun o e => oth _ o b1 e) ?_ hne hn (Nat.ne_of_gt b1) (Nat.ne_of_gt b2) _ new2 fun g tk acc c' h1 h2 h3 => ?_
  · obtain ⟨o, e, z⟩ := hl
    exact ⟨o, oth _ o b2 e, z⟩
  · exact ⟨rfl, k g tk acc c' (fun b o hb e => h1 b o (Nat.ne_of_lt (Heap.lt_size e)) hb (oth b o (Heap.lt_size e) e)) h2 h3⟩
end
section
variable {X : Cx} {E : XK} {e : Expr} {te : TE} {fa : Env → M Sl}
def tLstRev (K : PySem.W.Frag) (te : TE) : TE := fun σ H Q => te σ H fun v H1 => ∃ (a : Addr) (xs : List V), v = .ref a ∧ SqL K H1 a xs ∧ ∀ q, H1 q = none → Q (.ref q) (upd H1 q (.lst xs.reverse))
theorem pe_lstRev {p p2 pos pos2 : Pos} (hc : X.calm = true) (hg : Gl X "list") (hm : X.mg "list" = none) (hg2 : Gl X "reversed") (hm2 : X.mg "reversed" = none) (he : PE X e te)
    (s1 : starEach [e] X.env = (false, eval e X.env) :: starEach [] X.env := by rfl) (s2 : starEach [.Call (.Name "reversed" p2) [e] [] pos2] X.env = (false, eval (.Call (.Name "reversed" p2) [e] [] pos2) X.env) :: starEach [] X.env := by rfl) :
    PE X (.Call (.Name "list" p) [.Call (.Name "reversed" p2) [e] [] pos2] [] pos) (tLstRev X.K te) := by
  constructor
  intro pins s σ H Q I h
  refine Call_ (ld_blt I hg hm (show bootBuiltins "list" = some (.type "list") from by decide +kernel) (PyProof.Rows.callWith_type1 (args_cons (Call_ (ld_blt I hg2 hm2 PyProof.Rows.boot_reversed (PyProof.Rows.callWith_type1 (args_cons (thn (he.run pins s σ H _ I h) fun u z ⟨v, G, J, r1, q1⟩ => args_nil ?_) s1) s1 rfl))) s2) s2 rfl))
  obtain ⟨a, xs, rfl, hq, q⟩ := q1
  cases (show u = Value.ref a from r1)
  obtain ⟨its, rv, pl, hz⟩ := J.list hq
  have hl := pl.isList
  refine call_reversed_list hl (args_nil ?_)
  have up : ∀ b o, z.heap.get? b = some o → (z.heap.push (revObj a ((its.toArray.size : Int) - 1))).get? b = some o := fun b o y => Heap.get?_push_of_some _ y
  have J2 : Inv X pins σ G { z with heap := z.heap.push (revObj a ((its.toArray.size : Int) - 1)) } := J.kept (t' := z.toks) up
  have fp := J.fpOk (H' := G) (b := z.heap.objs.size) (Nat.le_refl _) (J.hok.fresh (Nat.le_refl _))
  have ne : a ≠ z.heap.objs.size := hl.elim fun _ y => Nat.ne_of_lt (Heap.lt_size y.1)
  have hn : its.toArray.size ≤ sizeLine := by rw [List.size_toArray, ← rv.length]; exact hz
  refine lrev_call (s := { z with heap := z.heap.push (revObj a ((its.toArray.size : Int) - 1)) }) (J.ok.hd hc) ⟨_, Heap.get?_push_size _ rfl, rfl, rfl⟩ (hl.push _) ne hn fun g tk acc c' k1 k2 k3 => ?_
  have fresh := J2.hok.fresh (Nat.le_refl _)
  have ok : ∀ G' : Hp, ObjOk X.prog X.w G' g (z.heap.push (revObj a ((its.toArray.size : Int) - 1))).objs.size (.lst xs.reverse) := fun G' => ⟨by rw [List.length_reverse]; exact hz, acc.toList, c', vals_rev rv k3, by rw [Array.toArray_toList]; exact k2⟩
  have J3 := J2.turnedNew (t' := tk) (ch := [z.heap.objs.size]) (T := (z.heap.push (revObj a ((its.toArray.size : Int) - 1))).objs.size) (ob := .lst xs.reverse) (h' := g) (fun b o hb y => k1 b o (fun w => hb (by simp [w])) y) (fun b hb => by rw [List.mem_singleton.mp hb]; exact fp) (Nat.le_refl _) (ok _)
  exact ⟨.ref _, _, J3, rfl, q _ fresh⟩
def eLstRev (fa : Env → M Sl) : Env → M Sl := fun ρ => (fa ρ).bind fun x => match x.d with
  | .list ds => .ok (.own (.list ds.reverse))
  | _ => .stuck
theorem de_lstRev {p p2 pos pos2 : Pos} (hc : X.calm = true) (hg : Gl X "list") (hm : X.mg "list" = none) (hg2 : Gl X "reversed") (hm2 : X.mg "reversed" = none) (he : DE X E e fa)
    (s1 : starEach [e] X.env = (false, eval e X.env) :: starEach [] X.env := by rfl) (s2 : starEach [.Call (.Name "reversed" p2) [e] [] pos2] X.env = (false, eval (.Call (.Name "reversed" p2) [e] [] pos2) X.env) :: starEach [] X.env := by rfl) :
    DE X E (.Call (.Name "list" p) [.Call (.Name "reversed" p2) [e] [] pos2] [] pos) (eLstRev fa) := by
  obtain ⟨t, pt, h⟩ := he
  refine ⟨_, pe_lstRev hc hg hm hg2 hm2 pt s1 s2, fun B0 H0 B H σ ρ Q re q => ?_⟩
  refine run_e h re ?_
  rcases q.bind with ⟨x, e1, q⟩ | ⟨x, e1, q⟩
  · refine .inl ⟨x, e1, fun v B1 H1 g1 r1 => ?_⟩
    have q := EPost.grow g1 q
    split at q
    · rename_i ds hds
      rw [hds] at r1
      cases r1 with
      | lst hh ra => exact ⟨_, _, rfl, .of (g1.s _ _ hh), fun p hp => q.own g1.s hp (.lst ra.reverse)⟩
    · exact q.elim
  · exact .inr ⟨x, e1, q⟩
end
end Dl
namespace Dl
open PySem PySem.Spec PyProof.Rows L2
def o_in_order : Env → O :=
  (oSeq (oIf (tOf (eOp (gCmp .Lt) (eVar 1) (eVar 0))) (oRet (eTup (aCons (eVar 1) (aCons (eVar 0) aNil)))) oNx)
    (oRet (eTup (aCons (eVar 0) (aCons (eVar 1) aNil)))))
def f_in_order : List PyData → M Sl := fnO 2 2 o_in_order
def o_law_pair_up : Env → O :=
  (oRet (eIf (tOf (eOp (gCmp .LtE) (eVar 0) (eVar 1))) (eTup (aCons (eVar 0) (aCons (eVar 1) aNil))) (eTup (aCons (eVar 1) (aCons (eVar 0) aNil)))))
def f_law_pair_up : List PyData → M Sl := fnO 2 2 o_law_pair_up
def o_law_whole : Env → O :=
  (oRet (eAndV (eIsi "int" (eVar 0)) (eNotV (eIsi "bool" (eVar 0)))))
def f_law_whole : List PyData → M Sl := fnO 1 1 o_law_whole
def o_seen_of : Env → O :=
  (oRet (eCall gTuple (aCons (eLc (iAr (aCons (eVar 0) (aCons (eVar 1) aNil)) zipOf) [2, 3] (bTup 2 (bCons (bN 2) (bCons (bN 3) bNil))) (fun _ => .ok true) (eIf (tOf (eOp gEq (eVar 2) (eVar 3))) (eVar 2) (eC (.int 2)))) aNil)))
def f_seen_of : List PyData → M Sl := fnO 2 4 o_seen_of
def o_law_is_row : Env → O :=
  (oSeq (oIf (tOrF (tNotF (tOf (eIsi "tuple" (eVar 0)))) (tOf (eOp gNe (eCall gLen (aCons (eVar 0) aNil)) (eVar 1)))) (oRet (eC (.bool false))) oNx)
    (oSeq (oForE (iOf (eVar 0)) (bN 3) (oIf (tOrF (tNotF (tOf (eCall f_law_whole (aCons (eVar 3) aNil)))) (tOrF (tOf (eOp (gCmp .Lt) (eVar 3) (eC (.int 0)))) (tOf (eOp (gCmp .Gt) (eVar 3) (eVar 2))))) (oRet (eC (.bool false))) oNx))
    (oRet (eC (.bool true)))))
def f_law_is_row : List PyData → M Sl := fnO 3 4 o_law_is_row
def o_law_seen : Env → O :=
  (oSeq (oSet 2 (eLst aNil))
    (oSeq (oForE (iAr (aCons (eCall gLen (aCons (eVar 0) aNil)) aNil) rng1Of) (bN 3) (oMutS (mMut 2 gAppend (aCons (eIf (tOf (eOp gEq (eOp gIx (eVar 0) (eVar 3)) (eOp gIx (eVar 1) (eVar 3)))) (eOp gIx (eVar 0) (eVar 3)) (eC (.int 2))) aNil))))
    (oFix [2] (oRet (eCall gTuple (aCons (eVar 2) aNil))))))
def f_law_seen : List PyData → M Sl := fnO 2 4 o_law_seen
def o_law_row : Env → O :=
  (oSeq (oSet 3 (eLst aNil))
    (oSeq (oIf (tOf (eOp (gCmp .GtE) (eVar 0) (eOp gPow (eC (.int 10)) (eC (.int 18))))) (oSeq (oSet 6 (eOp gSub (eVar 0) (eOp gPow (eC (.int 10)) (eC (.int 18)))))
    (oSeq (oForE (iAr (aCons (eVar 1) aNil) rng1Of) (bN 5) (oSeq (oMutS (mMut 3 gAppend (aCons (eOp gMod (eVar 6) (eVar 2)) aNil)))
    (oSet 6 (eOp gDiv (eVar 6) (eVar 2)))))
    (oRetV 3))) oNx)
    (oSeq (oSet 4 (eOp gMod (eVar 0) (eC (.int 2147483647))))
    (oSeq (oForE (iAr (aCons (eVar 1) aNil) rng1Of) (bN 5) (oSeq (oSet 4 (eOp gMod (eOp gAdd (eOp gAdd (eOp gMul (eVar 4) (eC (.int 48271))) (eC (.int 12345))) (eVar 5)) (eC (.int 2147483647))))
    (oSeq (oSet 7 (eOp gMod (eOp gDiv (eOp gMul (eVar 4) (eOp gAdd (eOp gMod (eVar 4) (eC (.int 65521))) (eC (.int 3)))) (eC (.int 1009))) (eC (.int 1000003))))
    (oMutS (mMut 3 gAppend (aCons (eOp gMod (eVar 7) (eVar 2)) aNil))))))
    (oRetV 3)))))
def f_law_row : List PyData → M Sl := fnO 3 8 o_law_row
def o_law_cell : Env → O :=
  (oSeq (oIf (tOf (eOp (gCmp .Lt) (eVar 1) (eCall gLen (aCons (eVar 0) aNil)))) (oRet (eOp gIx (eVar 0) (eVar 1))) oNx)
    (oRet (eC (.int 0))))
def f_law_cell : List PyData → M Sl := fnO 2 2 o_law_cell
def o_changed_mark : Env → O :=
  (oSeq (oIf (tOf (eOp gEq (eVar 0) (eC (.int 2)))) (oRet (eC (.int 2))) oNx)
    (oRet (eOp gMod (eOp gAdd (eVar 0) (eVar 1)) (eC (.int 2)))))
def f_changed_mark : List PyData → M Sl := fnO 2 2 o_changed_mark
def o_against : Env → O :=
  (oRet (eCall gTuple (aCons (eLc (iAr (aCons (eVar 0) (aCons (eVar 1) aNil)) zipOf) [2, 3] (bTup 2 (bCons (bN 2) (bCons (bN 3) bNil))) (fun _ => .ok true) (eCall f_changed_mark (aCons (eVar 2) (aCons (eVar 3) aNil)))) aNil)))
def f_against : List PyData → M Sl := fnO 2 4 o_against
def o_law_against : Env → O :=
  (oSeq (oSet 2 (eLst aNil))
    (oSeq (oForE (iAr (aCons (eCall gLen (aCons (eVar 1) aNil)) aNil) rng1Of) (bN 3) (oIf (tOf (eOp gEq (eOp gIx (eVar 0) (eVar 3)) (eC (.int 2)))) (oMutS (mMut 2 gAppend (aCons (eC (.int 2)) aNil))) (oMutS (mMut 2 gAppend (aCons (eIf (tOf (eOp gEq (eOp gIx (eVar 0) (eVar 3)) (eOp gIx (eVar 1) (eVar 3)))) (eC (.int 0)) (eC (.int 1))) aNil)))))
    (oFix [2] (oRet (eCall gTuple (aCons (eVar 2) aNil))))))
def f_law_against : List PyData → M Sl := fnO 2 4 o_law_against
def o_law_split : Env → O :=
  (oSeq (oSet 2 (eCall f_law_row (aCons (eVar 1) (aCons (eCall gLen (aCons (eVar 0) aNil)) (aCons (eC (.int 2)) aNil)))))
    (oSeq (oSet 3 (eLst aNil))
    (oSeq (oSet 4 (eLst aNil))
    (oSeq (oForE (iAr (aCons (eCall gLen (aCons (eVar 0) aNil)) aNil) rng1Of) (bN 5) (oIf (tOf (eOp gEq (eOp gIx (eVar 0) (eVar 5)) (eC (.int 2)))) (oSeq (oFix [2] (oMutS (mMut 3 gAppend (aCons (eOp gIx (eVar 2) (eVar 5)) aNil))))
    (oFix [2] (oMutS (mMut 4 gAppend (aCons (eOp gSub (eC (.int 1)) (eOp gIx (eVar 2) (eVar 5))) aNil))))) (oSeq (oMutS (mMut 3 gAppend (aCons (eOp gIx (eVar 0) (eVar 5)) aNil)))
    (oMutS (mMut 4 gAppend (aCons (eOp gIx (eVar 0) (eVar 5)) aNil))))))
    (oFix [3, 4] (oRet (eCall f_law_pair_up (aCons (eCall gTuple (aCons (eVar 3) aNil)) (aCons (eCall gTuple (aCons (eVar 4) aNil)) aNil)))))))))
def f_law_split : List PyData → M Sl := fnO 2 6 o_law_split
def o_law_due : Env → O :=
  (oSeq (oIf (tAndF (tOf (eOp gEq (eOp gIx (eVar 0) (eVar 1)) (eC (.int 2)))) (tOf (eOp gEq (eOp gIx (eVar 0) (eVar 2)) (eC (.int 2))))) (oRet (eLst aNil)) oNx)
    (oSeq (oSet 3 (eLst aNil))
    (oSeq (oForE (iOf (eLst (aCons (eTup (aCons (eC (.int 0)) (aCons (eC (.int 0)) aNil))) (aCons (eTup (aCons (eC (.int 0)) (aCons (eC (.int 1)) aNil))) (aCons (eTup (aCons (eC (.int 1)) (aCons (eC (.int 0)) aNil))) (aCons (eTup (aCons (eC (.int 1)) (aCons (eC (.int 1)) aNil))) aNil)))))) (bN 4) (oIf (tAndF (tOf (eOp gIn (eOp gIx (eVar 0) (eVar 1)) (eTup (aCons (eOp gIx (eVar 4) (eC (.int 0))) (aCons (eC (.int 2)) aNil))))) (tOf (eOp gIn (eOp gIx (eVar 0) (eVar 2)) (eTup (aCons (eOp gIx (eVar 4) (eC (.int 1))) (aCons (eC (.int 2)) aNil)))))) (oMutS (mMut 3 gAppend (aCons (eVar 4) aNil))) oNx))
    (oRetV 3))))
def f_law_due : List PyData → M Sl := fnO 3 5 o_law_due
def o_ways_of_mark : Env → O :=
  (oSeq (oIf (tOf (eOp gEq (eVar 0) (eC (.int 2)))) (oRet (eLst (aCons (eC (.int 0)) (aCons (eC (.int 1)) aNil)))) oNx)
    (oRet (eLst (aCons (eVar 0) aNil))))
def f_ways_of_mark : List PyData → M Sl := fnO 1 1 o_ways_of_mark
def o_shows : Env → O :=
  (oSeq (oIf (tAndF (tOf (eOp gEq (eOp gIx (eVar 0) (eVar 1)) (eC (.int 2)))) (tOf (eOp gEq (eOp gIx (eVar 0) (eVar 2)) (eC (.int 2))))) (oRet (eLst aNil)) oNx)
    (oSeq (oSet 3 (eLst aNil))
    (oSeq (oForE (iOf (eCall f_ways_of_mark (aCons (eOp gIx (eVar 0) (eVar 1)) aNil))) (bN 4) (oForE (iOf (eCall f_ways_of_mark (aCons (eOp gIx (eVar 0) (eVar 2)) aNil))) (bN 5) (oMutS (mMut 3 gAppend (aCons (eTup (aCons (eVar 4) (aCons (eVar 5) aNil))) aNil)))))
    (oRetV 3))))
def f_shows : List PyData → M Sl := fnO 3 6 o_shows
def o_pairs_of : Env → O :=
  (oSeq (oSet 1 (eLst aNil))
    (oSeq (oForE (iAr (aCons (eVar 0) aNil) enumOf) (bTup 2 (bCons (bN 2) (bCons (bN 3) bNil))) (oForE (iOf (eSl (eVar 0) (sSome (eOp gAdd (eVar 2) (eC (.int 1)))) sNone)) (bN 4) (oMutS (mMut 1 gAppend (aCons (eTup (aCons (eVar 3) (aCons (eVar 4) aNil))) aNil)))))
    (oRetV 1)))
def f_pairs_of : List PyData → M Sl := fnO 1 5 o_pairs_of
def o_has_all : Env → O :=
  (oRet (eCall (gAllAny fun bs => bs.all id) (aCons (eLc (fun _ => .ok [(fz [(.int 0), (.int 1)]), (fz [(.int 1), (.int 0)]), (fz [(.int 1), (.int 1)])]) [1] (bN 1) (fun _ => .ok true) (eOp gInT (eVar 1) (eVar 0))) aNil)))
def f_has_all : List PyData → M Sl := fnO 1 2 o_has_all
def o_shown_by : Env → O :=
  (oSeq (oSet 3 eNewT)
    (oSeq (oForE (iOf (eVar 0)) (bTup 2 (bCons (bN 4) (bCons (bN 5) bNil))) (oForE (iOf (eCall f_shows (aCons (eVar 5) (aCons (eVar 1) (aCons (eVar 2) aNil))))) (bN 6) (oIf (tPub (tOf (eOp gNotInT (eVar 6) (eVar 3)))) (oPutT 3 (eVar 4) (eVar 6)) oNx)))
    (oRetV 3)))
def f_shown_by : List PyData → M Sl := fnO 3 7 o_shown_by
def o_barred_at : Env → O :=
  (oSeq (oSet 2 (eLc (iOf (eVar 0)) [5] (bN 5) (fun _ => .ok true) (eTup (aCons (eC (.str "")) (aCons (eCall f_against (aCons (eVar 5) (aCons (eVar 1) aNil))) aNil)))))
    (oSeq (oForE (iOf (eCall f_pairs_of (aCons (eLstRg1 (eCall gLen (aCons (eVar 1) aNil))) aNil))) (bTup 2 (bCons (bN 3) (bCons (bN 4) bNil))) (oFix [2] (oIf (tOf (eCall f_has_all (aCons (eCall f_shown_by (aCons (eVar 2) (aCons (eVar 3) (aCons (eVar 4) aNil)))) aNil))) (oRet (eTup (aCons (eVar 3) (aCons (eVar 4) aNil)))) oNx)))
    (oRet (eC .none))))
def f_barred_at : List PyData → M Sl := fnO 2 6 o_barred_at
def o_is_borne : Env → O :=
  (oRet (eOp gIsN (eCall f_barred_at (aCons (eVar 0) (aCons (eVar 1) aNil))) (eC .none)))
def f_is_borne : List PyData → M Sl := fnO 2 2 o_is_borne
def o_law_flip : Env → O :=
  (oRet (eOp gAdd (eOp gAdd (eSl (eVar 0) sNone (sSome (eVar 1))) (eTup (aCons (eOp gSub (eC (.int 1)) (eOp gIx (eVar 0) (eVar 1))) aNil))) (eSl (eVar 0) (sSome (eOp gAdd (eVar 1) (eC (.int 1)))) sNone)))
def f_law_flip : List PyData → M Sl := fnO 2 2 o_law_flip
def o_law_grown : Env → O :=
  (oSeq (oSet 2 (eLst (aCons (eVar 0) aNil)))
    (oSeq (oSet 3 (eLstRg1 (eCall gLen (aCons (eVar 0) aNil))))
    (oSeq (oForE (iOf (eCall f_law_row (aCons (eVar 1) (aCons (eCall gLen (aCons (eVar 0) aNil)) (aCons (eC (.int 840)) aNil))))) (bN 4) (oSeq (oMutA 5 (mMut 3 gPopAt (aCons (ePub (eOp gMod (eVar 4) (eCall gLen (aCons (eVar 3) aNil)))) aNil)))
    (oSeq (oIf (tOf (eOp gEq (eOp gMod (eOp gDiv (eVar 4) (eC (.int 8))) (eC (.int 7))) (eC (.int 6)))) oCt oNx)
    (oIf (tPub (tAndF (tOf (eOp gEq (eOp gMod (eOp gDiv (eVar 4) (eC (.int 8))) (eC (.int 7))) (eC (.int 5)))) (tOf (eOp (gCmp .Gt) (eCall gLen (aCons (eVar 2) aNil)) (eC (.int 1)))))) (oMutS (mMutM 2 gAppend (amCons (mCall f_law_flip (amCons (mMut 2 gPop aNil) (aCons (eVar 5) aNil))) aNil))) (oMutS (mMut 2 gAppend (aCons (ePub (eCall f_law_flip (aCons (eOp gIx (eVar 2) (eOp gMod (eOp gDiv (eVar 4) (eC (.int 56))) (eCall gLen (aCons (eVar 2) aNil)))) (aCons (eVar 5) aNil)))) aNil)))))))
    (oRetV 2))))
def f_law_grown : List PyData → M Sl := fnO 2 6 o_law_grown
def o_law_first : Env → O :=
  (oSeq (oSet 2 (eLc (iOf (eVar 0)) [5] (bN 5) (fun _ => .ok true) (eCall f_law_against (aCons (eVar 5) (aCons (eVar 1) aNil)))))
    (oSeq (oForE (iAr (aCons (eCall gLen (aCons (eVar 1) aNil)) aNil) rng1Of) (bN 3) (oForE (iAr (aCons (eOp gAdd (eVar 3) (eC (.int 1))) (aCons (eCall gLen (aCons (eVar 1) aNil)) aNil)) rng2Of) (bN 4) (oSeq (oFix [2] (oSet 6 (eLc (iOf (eVar 2)) [5] (bN 5) (fun _ => .ok true) (eTup (aCons (eOp gIx (eVar 5) (eVar 3)) (aCons (eOp gIx (eVar 5) (eVar 4)) aNil))))))
    (oFix [6] (oIf (tAndF (tOf (eOp gIn (eTup (aCons (eC (.int 0)) (aCons (eC (.int 1)) aNil))) (eVar 6))) (tAndF (tOf (eOp gIn (eTup (aCons (eC (.int 1)) (aCons (eC (.int 0)) aNil))) (eVar 6))) (tOf (eOp gIn (eTup (aCons (eC (.int 1)) (aCons (eC (.int 1)) aNil))) (eVar 6))))) (oRet (eTup (aCons (eVar 3) (aCons (eVar 4) aNil)))) oNx)))))
    (oRet (eC .none))))
def f_law_first : List PyData → M Sl := fnO 2 7 o_law_first
def o_law_rows : Env → O :=
  (oSeq (oSet 2 (eCall f_law_cell (aCons (eVar 0) (aCons (eC (.int 0)) aNil))))
    (oSeq (oSet 3 (eCall gLen (aCons (eVar 1) aNil)))
    (oSeq (oIf (tOf (eOp gEq (eOp gMod (eOp gDiv (eVar 2) (eC (.int 12))) (eC (.int 3))) (eC (.int 2)))) (oRet (eLc (iAr (aCons (eOp gMod (eOp gDiv (eVar 2) (eC (.int 36))) (eC (.int 13))) aNil) rng1Of) [8] (bN 8) (fun _ => .ok true) (eCall gTuple (aCons (eCall f_law_row (aCons (eOp gAdd (eCall f_law_cell (aCons (eVar 0) (aCons (eC (.int 3)) aNil))) (eVar 8)) (aCons (eVar 3) (aCons (eC (.int 2)) aNil)))) aNil)))) oNx)
    (oSeq (oSet 4 (eCall f_law_grown (aCons (eVar 1) (aCons (eCall f_law_cell (aCons (eVar 0) (aCons (eC (.int 2)) aNil))) aNil))))
    (oSeq (oSet 5 (eLst aNil))
    (oSeq (oForE (iOf (eCall f_law_row (aCons (eCall f_law_cell (aCons (eVar 0) (aCons (eC (.int 3)) aNil))) (aCons (eOp gMod (eOp gDiv (eVar 2) (eC (.int 36))) (eC (.int 13))) (aCons (eC (.int 5040)) aNil))))) (bN 6) (oSeq (oFix [4] (oSet 7 (eOp gIx (eVar 4) (eOp gMod (eVar 6) (eCall gLen (aCons (eVar 4) aNil))))))
    (oSeq (oIf (tAndF (tOf (eOp gEq (eOp gMod (eOp gDiv (eVar 2) (eC (.int 12))) (eC (.int 3))) (eC (.int 1)))) (tOf (eOp gEq (eOp gMod (eOp gDiv (eVar 6) (eC (.int 9))) (eC (.int 4))) (eC (.int 3))))) (oSet 7 (eCall f_law_flip (aCons (eVar 7) (aCons (eOp gMod (eOp gDiv (eVar 6) (eC (.int 36))) (eVar 3)) aNil)))) oNx)
    (oMutS (mMut 5 gAppend (aCons (eVar 7) aNil))))))
    (oRetV 5)))))))
def f_law_rows : List PyData → M Sl := fnO 2 9 o_law_rows
def o_law_k06 : Env → O :=
  (oSeq (oSet 1 (eCall f_law_cell (aCons (eVar 0) (aCons (eC (.int 0)) aNil))))
    (oSeq (oSet 2 (eCall gTuple (aCons (eCall f_law_row (aCons (eCall f_law_cell (aCons (eVar 0) (aCons (eC (.int 1)) aNil))) (aCons (eOp gAdd (eC (.int 1)) (eOp gMod (eVar 1) (eC (.int 12)))) (aCons (eC (.int 2)) aNil)))) aNil)))
    (oSeq (oSet 3 (eCall f_law_rows (aCons (eVar 0) (aCons (eVar 2) aNil))))
    (oSeq (oFix [3] (oSet 4 (eCall f_law_first (aCons (eVar 3) (aCons (eVar 2) aNil)))))
    (oSeq (oFix [3] (oSet 5 (eCall gList (aCons (eVar 3) aNil))))
    (oSeq (oFix [5] (oSet 6 (eCall f_barred_at (aCons (eVar 5) (aCons (eVar 2) aNil)))))
    (oSeq (oIf (tAndF (tOf (eOp gIsN (eVar 4) (eC .none))) (tOf (eOp gNotN (eVar 6) (eC .none)))) (oRet (eC (.bool false))) oNx)
    (oSeq (oIf (tOf (eOp gNotN (eVar 4) (eC .none))) (oSeq (oIf (tOrF (tNotF (tOf (eIsi "tuple" (eVar 6)))) (tOf (eOp gNe (eVar 6) (eVar 4)))) (oRet (eC (.bool false))) oNx)
    (oIf (tOrF (tNotF (tOf (eCall f_law_whole (aCons (eOp gIx (eVar 6) (eC (.int 0))) aNil)))) (tNotF (tOf (eCall f_law_whole (aCons (eOp gIx (eVar 6) (eC (.int 1))) aNil))))) (oRet (eC (.bool false))) oNx)) oNx)
    (oSeq (oFix [5] (oSet 7 (eCall f_is_borne (aCons (eVar 5) (aCons (eVar 2) aNil)))))
    (oSeq (oFix [3, 5] (oIf (tOrF (tNotF (tOf (eIsi "bool" (eVar 7)))) (tOrF (tOf (eOp gNe (eVar 7) (eOp gIsN (eVar 4) (eC .none)))) (tOf (eOp gNe (eVar 5) (eVar 3))))) (oRet (eC (.bool false))) oNx))
    (oFix [3] (oRet (eOp gEq (eCall f_is_borne (aCons (eLstRev (eVar 3)) (aCons (eVar 2) aNil))) (eVar 7))))))))))))))
def f_law_k06 : List PyData → M Sl := fnO 1 8 o_law_k06
end Dl
/-! Evaluation of meanings: one fact per operation. -/
namespace Dl
open PySem PySem.Spec PyProof.Rows L2
theorem oSeq_nx {f g : Env → O} {ρ ρ' : Env} (h : f ρ = .nx ρ') : oSeq f g ρ = g ρ' := by simp only [oSeq, h]
theorem oSeq_rt {f g : Env → O} {ρ : Env} {s : Sl} (h : f ρ = .rt s) : oSeq f g ρ = .rt s := by simp only [oSeq, h]
theorem oSeq_ct {f g : Env → O} {ρ ρ' : Env} (h : f ρ = .ct ρ') : oSeq f g ρ = .ct ρ' := by simp only [oSeq, h]
theorem oSeq_bk {f g : Env → O} {ρ ρ' : Env} (h : f ρ = .bk ρ') : oSeq f g ρ = .bk ρ' := by simp only [oSeq, h]
theorem oSeq_exc {f g : Env → O} {ρ : Env} {x : Str} (h : f ρ = .exc x) : oSeq f g ρ = .exc x := by simp only [oSeq, h]
/-- not by mere unfolding: the kernel would look into the wrong side -/
theorem bindN_ok {α β : Type} {a : α} {f : α → M β} : (M.ok a).bind f = f a := (Eq.refl (f a)).trans (Eq.refl (f a))
theorem oOfN_ok {α : Type} {a : α} {k : α → O} : oOf (.ok a) k = k a := (Eq.refl (k a)).trans (Eq.refl (k a))
theorem oFor_nil {bd : PyData → Env → M Env} {body : Env → O} {ρ : Env} : oFor bd body [] ρ = .nx ρ := (Eq.refl (O.nx ρ)).trans (Eq.refl (O.nx ρ))
theorem oFor_cons {bd : PyData → Env → M Env} {body : Env → O} {d : PyData} {ds : List PyData} {ρ : Env} : oFor bd body (d :: ds) ρ = oOf (bd d ρ) fun ρ1 => match body ρ1 with
    | .nx ρ2 => oFor bd body ds ρ2
    | .ct ρ2 => oFor bd body ds ρ2
    | .bk ρ2 => .nx ρ2
    | .rt sl => .rt sl
    | .exc x => .exc x
    | .stuck => .stuck := by first | (rw [oFor]; done) | (rw [oFor]; rfl)
theorem seqN {f g : Env → O} {ρ ρ' : Env} {r : O} (h : f ρ = .nx ρ') (k : g ρ' = r) : oSeq f g ρ = r := by rw [oSeq_nx h]; exact k
theorem seqP {f g : Env → O} {ρ : Env} {r : O} (P : Env → Prop) (h : ∃ ρ', f ρ = .nx ρ' ∧ P ρ') (k : ∀ ρ', P ρ' → g ρ' = r) : oSeq f g ρ = r := by
  obtain ⟨ρ', h1, h2⟩ := h
  rw [oSeq_nx h1]
  exact k ρ' h2
theorem fixN {l : List Nat} {f : Env → O} {ρ : Env} {r : O} (k : f (fixs ρ l) = r) : oFix l f ρ = r := k
theorem fnO_rt {n m : Nat} {o : Env → O} {ds : List PyData} {sl : Sl} (h : ds.length = n) (k : o (ds.map (fun d => some (Sl.dat d)) ++ List.replicate (m - n) none) = .rt sl) : fnO n m o ds = .ok sl := by
  unfold fnO
  rw [if_pos h, k]
theorem ifN_t {t : Env → M Bool} {f g : Env → O} {ρ : Env} {r : O} (h : t ρ = .ok true) (k : f ρ = r) : oIf t f g ρ = r := by
  unfold oIf
  rw [h, oOf_ok, if_pos rfl]
  exact k
theorem ifN_f {t : Env → M Bool} {f g : Env → O} {ρ : Env} {r : O} (h : t ρ = .ok false) (k : g ρ = r) : oIf t f g ρ = r := by
  unfold oIf
  rw [h, oOf_ok, if_neg (by decide)]
  exact k
theorem forN {fi : Env → M (List PyData)} {bd : PyData → Env → M Env} {body : Env → O} {ρ : Env} {ds : List PyData} {r : O} (h : fi ρ = .ok ds) (k : oFor bd body ds ρ = r) : oForE fi bd body ρ = r := by
  unfold oForE
  rw [h, oOf_ok]
  exact k
theorem big_lt {n : Nat} (h : n ≤ 16777216) : big n = true := decide_eq_true h
theorem smallI_lt {i : Int} (h : -18446744073709551616 < i) (h2 : i < 18446744073709551616) : smallI i = true := decide_eq_true (by omega)
theorem gAdd_ii {i j : Int} : gAdd (.int i) (.int j) = retI (i + j) := rfl
theorem gAdd_tt {a b : List PyData} (h : a.length + b.length ≤ 16777216) : gAdd (.tuple a) (.tuple b) = .ok (.dat (.tuple (a ++ b))) := if_pos (big_lt h)
theorem gAdd_ll {a b : List PyData} (h : a.length + b.length ≤ 16777216) : gAdd (.list a) (.list b) = .ok (.own (.list (a ++ b))) := if_pos (big_lt h)
theorem gSub_ii {i j : Int} : gSub (.int i) (.int j) = retI (i - j) := rfl
theorem gMod_ii {i j : Int} (h : 0 < j) : gMod (.int i) (.int j) = retI (i % j) := if_pos h
theorem gDiv_ii {i j : Int} (h : 0 < j) (h2 : j < 18446744073709551616) : gDiv (.int i) (.int j) = retI (i / j) := if_pos ⟨h, h2⟩
theorem gMul_l {i j : Int} (h : -18446744073709551616 < i) (h2 : i < 18446744073709551616) : gMul (.int i) (.int j) = retI (i * j) := if_pos (Or.inl (smallI_lt h h2))
theorem gMul_r {i j : Int} (h : -18446744073709551616 < j) (h2 : j < 18446744073709551616) : gMul (.int i) (.int j) = retI (i * j) := if_pos (Or.inr (smallI_lt h h2))
theorem gPow_ii {i j : Int} (h : 0 ≤ j) (h2 : j ≤ 1000) (h3 : -18446744073709551616 < i) (h4 : i < 18446744073709551616) : gPow (.int i) (.int j) = retI (i ^ j.toNat) := if_pos ⟨h, h2, smallI_lt h3 h4⟩
theorem gNeg_i {i : Int} : gNeg (.int i) = retI (-i) := rfl
theorem gEq_ii {i j : Int} : gEq (.int i) (.int j) = retB (decide (i = j)) := rfl
theorem gNe_ii {i j : Int} : gNe (.int i) (.int j) = retB (!decide (i = j)) := rfl
theorem gEq_bb {i j : Bool} : gEq (.bool i) (.bool j) = retB (decide (i = j)) := rfl
theorem gNe_bb {i j : Bool} : gNe (.bool i) (.bool j) = retB (!decide (i = j)) := rfl
theorem gCmp_ii {op : CmpOp} {i j : Int} : gCmp op (.int i) (.int j) = retB (cmpI op i j) := rfl
theorem gIsN_n {d : PyData} : gIsN d .none = retB (isNoneD d) := rfl
theorem gNotN_n {d : PyData} : gNotN d .none = retB (!isNoneD d) := rfl
theorem gAppend_1 {l : List PyData} {d : PyData} (h : l.length + 1 ≤ 16777216) : gAppend l [d] = some (l ++ [d], .none) := if_pos (big_lt h)
theorem gLen_l {l : List PyData} : gLen [.list l] = retI l.length := rfl
theorem gLen_t {l : List PyData} : gLen [.tuple l] = retI l.length := rfl
theorem gLen_s {l : List PyData} : gLen [.dict [(.none, .list l)]] = retI l.length := rfl
theorem gTuple_l {l : List PyData} : gTuple [.list l] = .ok (.dat (.tuple l)) := rfl
theorem gTuple_t {l : List PyData} : gTuple [.tuple l] = .ok (.dat (.tuple l)) := rfl
theorem gList_l {l : List PyData} : gList [.list l] = .ok (.own (.list l)) := rfl
theorem gList_t {l : List PyData} : gList [.tuple l] = .ok (.own (.list l)) := rfl
theorem gMin2_ii {i j : Int} : gMin2 [.int i, .int j] = retI (if j < i then j else i) := rfl
theorem gMax2_ii {i j : Int} : gMax2 [.int i, .int j] = retI (if j > i then j else i) := rfl
theorem rngOk_lt {i : Int} (h : -1000000 ≤ i) (h2 : i ≤ 1000000) : rngOk i = true := decide_eq_true (by omega)
theorem rng1_i {j : Int} (h : -1000000 ≤ j) (h2 : j ≤ 1000000) : rng1Of [.int j] = .ok (rng 0 j.toNat) := if_pos (rngOk_lt h h2)
theorem rng2_i {i j : Int} (h : -1000000 ≤ j) (h2 : j ≤ 1000000) (h3 : -1000000 ≤ i) (h4 : i ≤ 1000000) : rng2Of [.int i, .int j] = .ok (rng i (j - i).toNat) := if_pos ⟨rngOk_lt h3 h4, rngOk_lt h h2⟩
theorem cut_to {l : List PyData} {i : Int} (h0 : 0 ≤ i) (h : i ≤ (l.length : Int)) : cutD l none (some i) = l.take i.toNat := by
  have : ¬ (i < 0) := by omega
  simp only [cutD, HT.sIx, this, if_false, List.drop_zero, Nat.sub_zero]
  rw [Nat.min_eq_left (by omega)]
theorem cut_from {l : List PyData} {i : Int} (h0 : 0 ≤ i) (h : i ≤ (l.length : Int)) : cutD l (some i) none = l.drop i.toNat := by
  have : ¬ (i < 0) := by omega
  simp only [cutD, HT.sIx, this, if_false]
  rw [Nat.min_eq_left (by omega)]
  exact List.take_of_length_le (by rw [List.length_drop]; omega)
theorem gSl_t {l : List PyData} {lo hi : Option Int} : gSl (.tuple l) lo hi = .ok (.dat (.tuple (cutD l lo hi))) := rfl
theorem gSl_l {l : List PyData} {lo hi : Option Int} : gSl (.list l) lo hi = .ok (.own (.list (cutD l lo hi))) := rfl
theorem atI_pos {l : List PyData} {k : Int} (h0 : 0 ≤ k) : atI l k = l[k.toNat]? := by
  have e : k = ((k.toNat : Nat) : Int) := by omega
  cases h : l[k.toNat]? with
  | some d => rw [e]; exact atI_nat h
  | none =>
    rw [List.getElem?_eq_none_iff] at h
    simp only [atI, ixN]
    have h1 : ¬ (k < (l.length : Int)) := by omega
    simp [h1, h0]
theorem gIx_l {l : List PyData} {k : Int} {d : PyData} (h : atI l k = some d) : gIx (.list l) (.int k) = .ok (.dat d) := by simp only [gIx, h]
theorem gIx_t {l : List PyData} {k : Int} {d : PyData} (h : atI l k = some d) : gIx (.tuple l) (.int k) = .ok (.dat d) := by simp only [gIx, h]
theorem gIx_s {l : List PyData} {k : Int} {d : PyData} (h : atI l k = some d) : gIx (.dict [(.none, .list l)]) (.int k) = .ok (.dat d) := by simp only [gIx, h]
theorem zipOf_l {a b : List PyData} : zipOf [.list a, .list b] = .ok (zipD a b) := rfl
theorem zipOf_t {a b : List PyData} : zipOf [.tuple a, .tuple b] = .ok (zipD a b) := rfl
theorem enumOf_l {a : List PyData} : enumOf [.list a] = .ok (enumD a) := rfl
theorem enumOf_t {a : List PyData} : enumOf [.tuple a] = .ok (enumD a) := rfl
theorem ncast0 : ((0 : Nat) : Int) = 0 := rfl
theorem ncast1 : ((1 : Nat) : Int) = 1 := rfl
theorem ncast2 : ((2 : Nat) : Int) = 2 := rfl
theorem ncast3 : ((3 : Nat) : Int) = 3 := rfl
theorem ncast4 : ((4 : Nat) : Int) = 4 := rfl
theorem ncast5 : ((5 : Nat) : Int) = 5 := rfl
theorem kit_int_int : kitB "int" "int" = some true := by decide +kernel
theorem isi_int_int {i : Int} : gIsi "int" (.int i) = retB true := by simp only [gIsi, tyName, kit_int_int]
theorem kit_int_bool : kitB "int" "bool" = some false := by decide +kernel
theorem isi_int_bool {i : Int} : gIsi "bool" (.int i) = retB false := by simp only [gIsi, tyName, kit_int_bool]
theorem kit_int_tuple : kitB "int" "tuple" = some false := by decide +kernel
theorem isi_int_tuple {i : Int} : gIsi "tuple" (.int i) = retB false := by simp only [gIsi, tyName, kit_int_tuple]
theorem kit_int_list : kitB "int" "list" = some false := by decide +kernel
theorem isi_int_list {i : Int} : gIsi "list" (.int i) = retB false := by simp only [gIsi, tyName, kit_int_list]
theorem kit_int_str : kitB "int" "str" = some false := by decide +kernel
theorem isi_int_str {i : Int} : gIsi "str" (.int i) = retB false := by simp only [gIsi, tyName, kit_int_str]
theorem kit_bool_int : kitB "bool" "int" = some true := by decide +kernel
theorem isi_bool_int {i : Bool} : gIsi "int" (.bool i) = retB true := by simp only [gIsi, tyName, kit_bool_int]
theorem kit_bool_bool : kitB "bool" "bool" = some true := by decide +kernel
theorem isi_bool_bool {i : Bool} : gIsi "bool" (.bool i) = retB true := by simp only [gIsi, tyName, kit_bool_bool]
theorem kit_bool_tuple : kitB "bool" "tuple" = some false := by decide +kernel
theorem isi_bool_tuple {i : Bool} : gIsi "tuple" (.bool i) = retB false := by simp only [gIsi, tyName, kit_bool_tuple]
theorem kit_bool_list : kitB "bool" "list" = some false := by decide +kernel
theorem isi_bool_list {i : Bool} : gIsi "list" (.bool i) = retB false := by simp only [gIsi, tyName, kit_bool_list]
theorem kit_bool_str : kitB "bool" "str" = some false := by decide +kernel
theorem isi_bool_str {i : Bool} : gIsi "str" (.bool i) = retB false := by simp only [gIsi, tyName, kit_bool_str]
theorem kit_tuple_int : kitB "tuple" "int" = some false := by decide +kernel
theorem isi_tuple_int {i : List PyData} : gIsi "int" (.tuple i) = retB false := by simp only [gIsi, tyName, kit_tuple_int]
theorem kit_tuple_bool : kitB "tuple" "bool" = some false := by decide +kernel
theorem isi_tuple_bool {i : List PyData} : gIsi "bool" (.tuple i) = retB false := by simp only [gIsi, tyName, kit_tuple_bool]
theorem kit_tuple_tuple : kitB "tuple" "tuple" = some true := by decide +kernel
theorem isi_tuple_tuple {i : List PyData} : gIsi "tuple" (.tuple i) = retB true := by simp only [gIsi, tyName, kit_tuple_tuple]
theorem kit_tuple_list : kitB "tuple" "list" = some false := by decide +kernel
theorem isi_tuple_list {i : List PyData} : gIsi "list" (.tuple i) = retB false := by simp only [gIsi, tyName, kit_tuple_list]
theorem kit_tuple_str : kitB "tuple" "str" = some false := by decide +kernel
theorem isi_tuple_str {i : List PyData} : gIsi "str" (.tuple i) = retB false := by simp only [gIsi, tyName, kit_tuple_str]
theorem kit_list_int : kitB "list" "int" = some false := by decide +kernel
theorem isi_list_int {i : List PyData} : gIsi "int" (.list i) = retB false := by simp only [gIsi, tyName, kit_list_int]
theorem kit_list_bool : kitB "list" "bool" = some false := by decide +kernel
theorem isi_list_bool {i : List PyData} : gIsi "bool" (.list i) = retB false := by simp only [gIsi, tyName, kit_list_bool]
theorem kit_list_tuple : kitB "list" "tuple" = some false := by decide +kernel
theorem isi_list_tuple {i : List PyData} : gIsi "tuple" (.list i) = retB false := by simp only [gIsi, tyName, kit_list_tuple]
theorem kit_list_list : kitB "list" "list" = some true := by decide +kernel
theorem isi_list_list {i : List PyData} : gIsi "list" (.list i) = retB true := by simp only [gIsi, tyName, kit_list_list]
theorem kit_list_str : kitB "list" "str" = some false := by decide +kernel
theorem isi_list_str {i : List PyData} : gIsi "str" (.list i) = retB false := by simp only [gIsi, tyName, kit_list_str]
theorem kit_str_int : kitB "str" "int" = some false := by decide +kernel
theorem isi_str_int {i : Str} : gIsi "int" (.str i) = retB false := by simp only [gIsi, tyName, kit_str_int]
theorem kit_str_bool : kitB "str" "bool" = some false := by decide +kernel
theorem isi_str_bool {i : Str} : gIsi "bool" (.str i) = retB false := by simp only [gIsi, tyName, kit_str_bool]
theorem kit_str_tuple : kitB "str" "tuple" = some false := by decide +kernel
theorem isi_str_tuple {i : Str} : gIsi "tuple" (.str i) = retB false := by simp only [gIsi, tyName, kit_str_tuple]
theorem kit_str_list : kitB "str" "list" = some false := by decide +kernel
theorem isi_str_list {i : Str} : gIsi "list" (.str i) = retB false := by simp only [gIsi, tyName, kit_str_list]
theorem kit_str_str : kitB "str" "str" = some true := by decide +kernel
theorem isi_str_str {i : Str} : gIsi "str" (.str i) = retB true := by simp only [gIsi, tyName, kit_str_str]
theorem kit_none_int : kitB "NoneType" "int" = some false := by decide +kernel
theorem isi_none_int : gIsi "int" .none = retB false := by simp only [gIsi, tyName, kit_none_int]
theorem kit_none_bool : kitB "NoneType" "bool" = some false := by decide +kernel
theorem isi_none_bool : gIsi "bool" .none = retB false := by simp only [gIsi, tyName, kit_none_bool]
theorem kit_none_tuple : kitB "NoneType" "tuple" = some false := by decide +kernel
theorem isi_none_tuple : gIsi "tuple" .none = retB false := by simp only [gIsi, tyName, kit_none_tuple]
theorem kit_none_list : kitB "NoneType" "list" = some false := by decide +kernel
theorem isi_none_list : gIsi "list" .none = retB false := by simp only [gIsi, tyName, kit_none_list]
theorem kit_none_str : kitB "NoneType" "str" = some false := by decide +kernel
theorem isi_none_str : gIsi "str" .none = retB false := by simp only [gIsi, tyName, kit_none_str]
def fixS (x : Option Sl) : Option Sl := match x with
  | some (.own d) => some (.dat d)
  | x => x
theorem fix_get (ρ : Env) (i j : Nat) : (ρ.fix i)[j]? = if j = i then ρ[j]?.map fixS else ρ[j]? := by
  unfold Env.fix
  by_cases e : j = i
  · subst e
    rw [if_pos rfl]
    split
    · rename_i d h
      obtain ⟨hi, _⟩ := List.getElem?_eq_some_iff.mp h
      rw [List.getElem?_set_self hi, h]
      rfl
    · rename_i h
      cases h2 : ρ[j]? with
      | none => rfl
      | some x =>
        cases x with
        | none => rfl
        | some s =>
          cases s with
          | dat d => rfl
          | own d => exact absurd h2 (h d)
  · rw [if_neg e]
    split
    · rw [List.getElem?_set_ne (Ne.symm e)]
    · rfl
theorem fixs_app (ρ : Env) (l : List Nat) (i : Nat) : fixs ρ (l ++ [i]) = (fixs ρ l).fix i := by
  induction l generalizing ρ with
  | nil => rfl
  | cons a l ih => exact ih (ρ.fix a)
theorem fixs_range (ρ : Env) (n j : Nat) : (fixs ρ (List.range n))[j]? = if j < n then ρ[j]?.map fixS else ρ[j]? := by
  induction n with
  | zero => simp [fixs]
  | succ n ih =>
    rw [List.range_succ, fixs_app, fix_get, ih]
    by_cases e : j = n
    · subst e
      simp
    · rw [if_neg e]
      by_cases h : j < n
      · rw [if_pos h, if_pos (by omega)]
      · rw [if_neg h, if_neg (by omega)]
theorem fixAll_map (ρ : Env) : fixAll ρ = ρ.map fixS := by
  refine List.ext_getElem? fun j => ?_
  unfold fixAll
  rw [fixs_range, List.getElem?_map]
  by_cases h : j < ρ.length
  · rw [if_pos h]
  · rw [if_neg h, List.getElem?_eq_none (by omega)]
    rfl
theorem fixS_own (d : PyData) : fixS (some (.own d)) = some (.dat d) := rfl
theorem fixS_dat (d : PyData) : fixS (some (.dat d)) = some (.dat d) := rfl
theorem fixS_none : fixS none = none := rfl
theorem immA_ints (xs : List Int) : immA (xs.map PyData.int) = true := by
  induction xs with
  | nil => rfl
  | cons x xs ih => rw [List.map_cons, immA, ih]; rfl
theorem pubM_ok {sl : Sl} (h : immSl sl = true) : pubM (.ok sl) = .ok sl := if_pos h
theorem immSl_dat (d : PyData) : immSl (.dat d) = imm d := (Eq.refl (imm d)).trans (Eq.refl (imm d))
theorem imm_int (i : Int) : imm (.int i) = true := (Eq.refl true).trans (Eq.refl true)
theorem imm_bool (i : Bool) : imm (.bool i) = true := (Eq.refl true).trans (Eq.refl true)
theorem imm_tup (xs : List PyData) : imm (.tuple xs) = immA xs := (Eq.refl (immA xs)).trans (Eq.refl (immA xs))
end Dl
/-! Plain laws of the meanings: the base. -/
local macro_rules | `(tactic| walk_at "ev") => `(tactic| simp only [Dl.fnO, Dl.oSeq, Dl.gLen_s, Dl.oSet, Dl.oIf, Dl.oRet, Dl.oRetV, Dl.oRetN, Dl.oNx, Dl.oBk, Dl.oCt, Dl.oExp, Dl.oFix, Dl.fixs, Dl.Env.fix, Dl.oForE, Dl.oMutS, Dl.oMutA, Dl.oAsg, Dl.oSetIx, Dl.mMut, Dl.mMutM, Dl.mCall, Dl.mLift, Dl.amCons, Dl.eVar, Dl.eC, Dl.eOp, Dl.eUn, Dl.eIf, Dl.eAndV, Dl.eOrV, Dl.eNotV, Dl.eTup, Dl.eLst, Dl.eCall, Dl.eIsi, Dl.eChain, Dl.eSl, Dl.sNone, Dl.sSome, Dl.isI, Dl.isB, Dl.tOf, Dl.tAndF, Dl.tOrF, Dl.tNotF, Dl.aNil, Dl.aCons, Dl.iOf, Dl.iAr, Dl.itemsD, Dl.rng1_i, Dl.rng2_i,
  Dl.bN, Dl.bTup, Dl.bCons, Dl.bNil, Dl.oOfN_ok, Dl.oOf_exc, Dl.oOf_stuck, Dl.bindN_ok, Dl.bind_exc, Dl.bind_stuck, Dl.Sl.d_dat, Dl.Sl.d_own, Dl.gAdd_ii, Dl.gAdd_tt, Dl.gAdd_ll, Dl.gSub_ii, Dl.gMod_ii, Dl.gDiv_ii, Dl.gMul_l, Dl.gMul_r, Dl.gPow_ii, Dl.gNeg_i, Dl.gEq_ii, Dl.gNe_ii, Dl.gEq_bb, Dl.gNe_bb, Dl.gCmp_ii, Dl.cmpI, Dl.gIsN_n, Dl.gNotN_n, Dl.isNoneD, Dl.gAppend_1, Dl.gLen_l, Dl.gLen_t, Dl.gTuple_l, Dl.gTuple_t, Dl.gList_l, Dl.gList_t, Dl.ePub, Dl.tPub, Dl.gMin2_ii, Dl.fixAll_map, Dl.fixS_own, Dl.fixS_dat, Dl.fixS_none, Dl.pubM_ok, Dl.immSl_dat, Dl.imm_int, Dl.imm_bool, Dl.imm_tup, Dl.immA_ints,  Dl.ncast0, Dl.ncast1, Dl.ncast2, Dl.ncast3, Dl.ncast4, Dl.ncast5, Dl.oFor_nil, Dl.oFor_cons, Dl.gSl_t, Dl.gSl_l,  Dl.eLc, Dl.wipeE, Dl.zipOf_l, Dl.zipOf_t, Dl.enumOf_l, Dl.enumOf_t,  Dl.isi_int_int, Dl.isi_int_bool, Dl.isi_int_tuple, Dl.isi_int_list, Dl.isi_int_str, Dl.isi_bool_int, Dl.isi_bool_bool, Dl.isi_bool_tuple, Dl.isi_bool_list, Dl.isi_bool_str, Dl.isi_tuple_int, Dl.isi_tuple_bool, Dl.isi_tuple_tuple, Dl.isi_tuple_list, Dl.isi_tuple_str, Dl.isi_list_int, Dl.isi_list_bool, Dl.isi_list_tuple, Dl.isi_list_list, Dl.isi_list_str, Dl.isi_str_int, Dl.isi_str_bool, Dl.isi_str_tuple, Dl.isi_str_list, Dl.isi_str_str, Dl.isi_none_int, Dl.isi_none_bool, Dl.isi_none_tuple, Dl.isi_none_list, Dl.isi_none_str, Dl.gMax2_ii,
  List.getElem?_cons_zero, List.getElem?_cons_succ, List.set_cons_zero, List.set_cons_succ, List.map_cons, List.map_nil, List.length_cons, List.length_nil, List.replicate_succ, List.replicate_zero, List.cons_append, List.nil_append, List.append_nil, Nat.reduceSub, Nat.reduceAdd, Nat.reduceEqDiff, if_true, if_false, ite_true, ite_false, Bool.false_eq_true, decide_eq_true_eq, Nat.zero_add, and_self, true_and, and_true, or_true, true_or, or_false, false_or, not_true_eq_false, not_false_eq_true, Bool.not_true, Bool.not_false, Bool.or_true, Bool.true_or, Bool.or_false, Bool.false_or, Bool.and_true, Bool.true_and, Bool.and_false, Bool.false_and, decide_true, decide_false, List.length_map, Dl.big, Int.reduceLT, Int.reduceLE, Int.reduceAdd, Int.reduceSub, Int.reduceMul, Int.reduceNeg, Int.reduceMod, Int.reduceDiv, Int.reduceToNat, Int.reducePow, Int.reduceEq, Nat.reduceLeDiff, ↓reduceIte, List.length_append, Bool.true_eq_false, Dl.retI, Dl.retB, Dl.retS])
local macro_rules | `(tactic| walk_at "st") => `(tactic| refine Dl.seqN (by walk_at "evs"; rfl) ?_)
local macro_rules | `(tactic| walk_at "evs") => `(tactic| simp only [*, Dl.fnO, Dl.oSeq, Dl.gLen_s, Dl.oSet, Dl.oIf, Dl.oRet, Dl.oRetV, Dl.oRetN, Dl.oNx, Dl.oBk, Dl.oCt, Dl.oExp, Dl.oFix, Dl.fixs, Dl.Env.fix, Dl.oForE, Dl.oMutS, Dl.oMutA, Dl.oAsg, Dl.oSetIx, Dl.mMut, Dl.mMutM, Dl.mCall, Dl.mLift, Dl.amCons, Dl.eVar, Dl.eC, Dl.eOp, Dl.eUn, Dl.eIf, Dl.eAndV, Dl.eOrV, Dl.eNotV, Dl.eTup, Dl.eLst, Dl.eCall, Dl.eIsi, Dl.eChain, Dl.eSl, Dl.sNone, Dl.sSome, Dl.isI, Dl.isB, Dl.tOf, Dl.tAndF, Dl.tOrF, Dl.tNotF, Dl.aNil, Dl.aCons, Dl.iOf, Dl.iAr, Dl.itemsD, Dl.rng1_i, Dl.rng2_i,
  Dl.bN, Dl.bTup, Dl.bCons, Dl.bNil, Dl.oOfN_ok, Dl.oOf_exc, Dl.oOf_stuck, Dl.bindN_ok, Dl.bind_exc, Dl.bind_stuck, Dl.Sl.d_dat, Dl.Sl.d_own, Dl.gAdd_ii, Dl.gAdd_tt, Dl.gAdd_ll, Dl.gSub_ii, Dl.gMod_ii, Dl.gDiv_ii, Dl.gMul_l, Dl.gMul_r, Dl.gPow_ii, Dl.gNeg_i, Dl.gEq_ii, Dl.gNe_ii, Dl.gEq_bb, Dl.gNe_bb, Dl.gCmp_ii, Dl.cmpI, Dl.gIsN_n, Dl.gNotN_n, Dl.isNoneD, Dl.gAppend_1, Dl.gLen_l, Dl.gLen_t, Dl.gTuple_l, Dl.gTuple_t, Dl.gList_l, Dl.gList_t, Dl.ePub, Dl.tPub, Dl.gMin2_ii, Dl.fixAll_map, Dl.fixS_own, Dl.fixS_dat, Dl.fixS_none, Dl.pubM_ok, Dl.immSl_dat, Dl.imm_int, Dl.imm_bool, Dl.imm_tup, Dl.immA_ints,  Dl.ncast0, Dl.ncast1, Dl.ncast2, Dl.ncast3, Dl.ncast4, Dl.ncast5, Dl.oFor_nil, Dl.oFor_cons, Dl.gSl_t, Dl.gSl_l,  Dl.eLc, Dl.wipeE, Dl.zipOf_l, Dl.zipOf_t, Dl.enumOf_l, Dl.enumOf_t,  Dl.isi_int_int, Dl.isi_int_bool, Dl.isi_int_tuple, Dl.isi_int_list, Dl.isi_int_str, Dl.isi_bool_int, Dl.isi_bool_bool, Dl.isi_bool_tuple, Dl.isi_bool_list, Dl.isi_bool_str, Dl.isi_tuple_int, Dl.isi_tuple_bool, Dl.isi_tuple_tuple, Dl.isi_tuple_list, Dl.isi_tuple_str, Dl.isi_list_int, Dl.isi_list_bool, Dl.isi_list_tuple, Dl.isi_list_list, Dl.isi_list_str, Dl.isi_str_int, Dl.isi_str_bool, Dl.isi_str_tuple, Dl.isi_str_list, Dl.isi_str_str, Dl.isi_none_int, Dl.isi_none_bool, Dl.isi_none_tuple, Dl.isi_none_list, Dl.isi_none_str, Dl.gMax2_ii,
  List.getElem?_cons_zero, List.getElem?_cons_succ, List.set_cons_zero, List.set_cons_succ, List.map_cons, List.map_nil, List.length_cons, List.length_nil, List.replicate_succ, List.replicate_zero, List.cons_append, List.nil_append, List.append_nil, Nat.reduceSub, Nat.reduceAdd, Nat.reduceEqDiff, if_true, if_false, ite_true, ite_false, Bool.false_eq_true, decide_eq_true_eq, Nat.zero_add, and_self, true_and, and_true, or_true, true_or, or_false, false_or, not_true_eq_false, not_false_eq_true, Bool.not_true, Bool.not_false, Bool.or_true, Bool.true_or, Bool.or_false, Bool.false_or, Bool.and_true, Bool.true_and, Bool.and_false, Bool.false_and, decide_true, decide_false, List.length_map, Dl.big, Int.reduceLT, Int.reduceLE, Int.reduceAdd, Int.reduceSub, Int.reduceMul, Int.reduceNeg, Int.reduceMod, Int.reduceDiv, Int.reduceToNat, Int.reducePow, Int.reduceEq, Nat.reduceLeDiff, ↓reduceIte, List.length_append, Bool.true_eq_false, Dl.retI, Dl.retB, Dl.retS])
namespace Dl
open PySem PySem.Spec PyProof.Rows L2

/-- the script -/
abbrev scr (ns : List Int) : PyData := .dict [(.none, .list (ns.map PyData.int))]
/-- a row -/
abbrev rowD (xs : List Int) : PyData := .tuple (xs.map PyData.int)
def cellAt (ns : List Int) (k : Nat) : Int := ns.getD k 0

/-! ### loops -/
theorem oFor_ind {bd : PyData → Env → M Env} {body : Env → O} (P : Nat → Env → Prop) : ∀ (ds : List PyData) (i : Nat) (ρ : Env), P i ρ →
    (∀ j d ρ, ds[j]? = some d → P (i + j) ρ → ∃ ρ1 ρ2, bd d ρ = .ok ρ1 ∧ (body ρ1 = .nx ρ2 ∨ body ρ1 = .ct ρ2) ∧ P (i + j + 1) ρ2) → ∃ ρ', oFor bd body ds ρ = .nx ρ' ∧ P (i + ds.length) ρ'
  | [], i, ρ, h, _ => ⟨ρ, rfl, h⟩
  | d :: ds, i, ρ, h, st => by
    obtain ⟨ρ1, ρ2, h1, h2, h3⟩ := st 0 d ρ rfl h
    obtain ⟨ρ', k1, k2⟩ := oFor_ind P ds (i + 1) ρ2 h3 fun j d ρ hj hp => by
      have := st (j + 1) d ρ (by simpa using hj)
      rw [show i + (j + 1) = i + 1 + j by omega] at this
      exact this hp
    refine ⟨ρ', ?_, by rw [List.length_cons, show i + (ds.length + 1) = i + 1 + ds.length by omega]; exact k2⟩
    unfold oFor
    rw [h1, oOf_ok]
    rcases h2 with h2 | h2 <;> rw [h2] <;> exact k1
theorem rng_length (lo : Int) (n : Nat) : (rng lo n).length = n := by simp [rng]
theorem rng_succ (k m : Nat) : rng (k : Int) (m + 1) = .int k :: rng ((k + 1 : Nat) : Int) m := by
  unfold rng
  rw [List.range_succ_eq_map, List.map_cons, List.map_map]
  refine congr (congrArg List.cons ?_) ?_
  · simp
  · refine List.map_congr_left fun i _ => ?_
    simp only [Function.comp, PyData.int.injEq]
    omega
theorem rng_get {lo : Int} {n j : Nat} {d : PyData} (h : (rng lo n)[j]? = some d) : j < n ∧ d = .int (lo + (j : Int)) := by
  have hj : j < n := by
    have := (List.getElem?_eq_some_iff.mp h).1
    rw [rng_length] at this
    exact this
  refine ⟨hj, ?_⟩
  unfold rng at h
  rw [List.getElem?_map, List.getElem?_range hj] at h
  exact (Option.some.inj h).symm
theorem atI_map {xs : List Int} {k : Int} (h0 : 0 ≤ k) (h : k < (xs.length : Int)) : atI (xs.map PyData.int) k = some (.int (xs.getD k.toNat 0)) := by
  rw [atI_pos h0, List.getElem?_map, List.getD_eq_getElem?_getD, List.getElem?_eq_getElem (show k.toNat < xs.length by omega)]
  rfl

/-! ### cells and rows -/
theorem cell_spec (ns : List Int) (k : Int) (h0 : 0 ≤ k) : f_law_cell [scr ns, .int k] = .ok (.dat (.int (cellAt ns k.toNat))) := by
  unfold f_law_cell o_law_cell scr
  by_cases h : k < (ns.length : Int)
  · have := gIx_s (atI_map h0 h)
    walk_at "evs"
    rfl
  · walk_at "evs"
    simp only [cellAt]
    rw [List.getD_eq_getElem?_getD, List.getElem?_eq_none (by omega)]
    rfl
/-! ### laws of append loops -/
theorem row_loopA (c n s : Int) (hs : 0 < s) (hs2 : s < 18446744073709551616) (x4 x7 : Option Sl) (row : List Int) (ds : List PyData) (x5 : Option Sl) (rest : Int) (hb : row.length + ds.length ≤ 1000000) :
    ∃ new x5' rest', new.length = ds.length ∧ (∀ x ∈ new, 0 ≤ x ∧ x < s) ∧ oFor (bN 5) (oSeq (oMutS (mMut 3 gAppend (aCons (eOp gMod (eVar 6) (eVar 2)) aNil))) (oSet 6 (eOp gDiv (eVar 6) (eVar 2)))) ds
      [some (.dat (.int c)), some (.dat (.int n)), some (.dat (.int s)), some (.own (.list (row.map PyData.int))), x4, x5, some (.dat (.int rest)), x7] =
      .nx [some (.dat (.int c)), some (.dat (.int n)), some (.dat (.int s)), some (.own (.list ((row ++ new).map PyData.int))), x4, x5', some (.dat (.int rest')), x7] := by
  induction ds generalizing row x5 rest with
  | nil => exact ⟨[], x5, rest, rfl, fun x h => (nomatch h), by rw [List.append_nil]; rfl⟩
  | cons d ds ih =>
    obtain ⟨new, x5', rest', h1, h2, h3⟩ := ih (row ++ [rest % s]) (some (.dat d)) (rest / s) (by simp at hb ⊢; omega)
    refine ⟨rest % s :: new, x5', rest', by simp [h1], ?_, ?_⟩
    · intro x hx
      rcases List.mem_cons.mp hx with e | hx
      · rw [e]
        exact ⟨Int.emod_nonneg _ (by omega), Int.emod_lt_of_pos _ hs⟩
      · exact h2 x hx
    · unfold oFor
      have hbig : row.length + 1 ≤ 16777216 := by simp at hb; omega
      clear ih h1 h2
      walk_at "ev"
      walk_at "evs"
      rw [show row.map PyData.int ++ [PyData.int (rest % s)] = (row ++ [rest % s]).map PyData.int by simp, show row ++ rest % s :: new = (row ++ [rest % s]) ++ new by simp]
      exact h3

theorem row_loopB (c n s : Int) (hs : 0 < s) (hs2 : s < 18446744073709551616) (x6 : Option Sl) (row : List Int) (k : Nat) (m : Nat) (x5 x7 : Option Sl) (seed : Int) (h0 : 0 ≤ seed) (h1 : seed < 2147483647) (hb : row.length + m ≤ 1000000) (hk : k + m ≤ 1000000) :
    ∃ new seed' x5' x7', new.length = m ∧ (∀ x ∈ new, 0 ≤ x ∧ x < s) ∧ oFor (bN 5) (oSeq (oSet 4 (eOp gMod (eOp gAdd (eOp gAdd (eOp gMul (eVar 4) (eC (.int 48271))) (eC (.int 12345))) (eVar 5)) (eC (.int 2147483647))))
    (oSeq (oSet 7 (eOp gMod (eOp gDiv (eOp gMul (eVar 4) (eOp gAdd (eOp gMod (eVar 4) (eC (.int 65521))) (eC (.int 3)))) (eC (.int 1009))) (eC (.int 1000003))))
    (oMutS (mMut 3 gAppend (aCons (eOp gMod (eVar 7) (eVar 2)) aNil))))) (rng k m)
      [some (.dat (.int c)), some (.dat (.int n)), some (.dat (.int s)), some (.own (.list (row.map PyData.int))), some (.dat (.int seed)), x5, x6, x7] =
      .nx [some (.dat (.int c)), some (.dat (.int n)), some (.dat (.int s)), some (.own (.list ((row ++ new).map PyData.int))), some (.dat (.int seed')), x5', x6, x7'] := by
  induction m generalizing row k x5 x7 seed with
  | zero => exact ⟨[], seed, x5, x7, rfl, fun x h => (nomatch h), by rw [List.append_nil]; rfl⟩
  | succ m ih =>
    have hrng : rng (k : Int) (m + 1) = .int k :: rng ((k + 1 : Nat) : Int) m := rng_succ k m
    generalize hsd0 : (seed * 48271 + 12345 + k) % 2147483647 = sd
    have hsd : 0 ≤ sd ∧ sd < 2147483647 := hsd0 ▸ ⟨Int.emod_nonneg _ (by decide), Int.emod_lt_of_pos _ (by decide)⟩
    generalize hmx : sd * (sd % 65521 + 3) / 1009 % 1000003 = mx
    obtain ⟨new, seed', x5', x7', q1, q2, q3⟩ := ih (row ++ [mx % s]) (k + 1) (some (.dat (.int k))) (some (.dat (.int mx))) sd hsd.1 hsd.2 (by simp; omega) (by omega)
    refine ⟨mx % s :: new, seed', x5', x7', by simp [q1], ?_, ?_⟩
    · intro x hx
      rcases List.mem_cons.mp hx with e | hx
      · rw [e]
        exact ⟨Int.emod_nonneg _ (by omega), Int.emod_lt_of_pos _ hs⟩
      · exact q2 x hx
    · rw [hrng]
      unfold oFor
      have hbig : row.length + 1 ≤ 16777216 := by omega
      have s1 : -18446744073709551616 < seed ∧ seed < 18446744073709551616 := by omega
      have s2 : -18446744073709551616 < sd ∧ sd < 18446744073709551616 := by omega
      clear ih q1 q2 hrng h0 h1 hb hk hsd
      walk_at "ev"
      walk_at "evs"
      rw [show row ++ mx % s :: new = (row ++ [mx % s]) ++ new by simp, ← q3]
      simp only [List.map_append, List.map_cons, List.map_nil]
/-- a row drawn from a cell -/
theorem row_spec (c n s : Int) (hn : n ≤ 1000) (hn0 : -1000 ≤ n) (hs : 0 < s) (hs2 : s < 18446744073709551616) : ∃ row : List Int, row.length = n.toNat ∧ (∀ x ∈ row, 0 ≤ x ∧ x < s) ∧ f_law_row [.int c, .int n, .int s] = .ok (.own (.list (row.map PyData.int))) := by
  have hn1 : n ≤ 1000000 := by omega
  have hn2 : -1000000 ≤ n := by omega
  obtain ⟨new, x5, rest, a1, a2, a3⟩ := row_loopA c n s hs hs2 none none [] (rng 0 n.toNat) none (c - 1000000000000000000) (by rw [rng_length]; simp; omega)
  obtain ⟨new2, seed, x5', x7, b1, b2, b3⟩ := row_loopB c n s hs hs2 none [] 0 n.toNat none none (c % 2147483647) (Int.emod_nonneg _ (by decide)) (Int.emod_lt_of_pos _ (by decide)) (by simp; omega) (by omega)
  rw [rng_length] at a1
  simp only [List.map_nil, List.nil_append, Int.ofNat_zero] at a3 b3
  unfold f_law_row o_law_row
  by_cases hc : 1000000000000000000 ≤ c
  · refine ⟨new, a1, a2, ?_⟩
    clear b1 b2 b3 a1 a2
    walk_at "evs"
  · refine ⟨new2, b1, b2, ?_⟩
    clear a1 a2 a3 b1 b2
    walk_at "evs"
end Dl
/-! Plain laws of the meanings: data of whole numbers, loops over typed lists, rows. -/
namespace Dl
open PySem PySem.Spec PyProof.Rows L2

/-! ### data of whole numbers -/
def dn : Nat → PyData → Bool
  | _, .int _ => true
  | n + 1, .tuple xs => xs.all (dn n)
  | n + 1, .list xs => xs.all (dn n)
  | _, _ => false
theorem dn_int (n : Nat) (i : Int) : dn n (.int i) = true := by cases n <;> rfl
theorem dn_eqvAll {f g : PyData → Bool} : ∀ (xs ys : List PyData), (∀ x ∈ xs, ∀ y ∈ ys, f x = true → g y = true → (PyData.eqv x y = true ↔ x = y)) → xs.all f = true → ys.all g = true → (PyData.eqvAll xs ys = true ↔ xs = ys)
  | [], [], _, _, _ => by simp [PyData.eqvAll]
  | [], _ :: _, _, _, _ => by simp [PyData.eqvAll]
  | _ :: _, [], _, _, _ => by simp [PyData.eqvAll]
  | x :: xs, y :: ys, h, h1, h2 => by
    simp only [List.all_cons, Bool.and_eq_true] at h1 h2
    simp only [PyData.eqvAll, Bool.and_eq_true, List.cons.injEq, h x (List.mem_cons_self ..) y (List.mem_cons_self ..) h1.1 h2.1, dn_eqvAll xs ys (fun a ha b hb => h a (List.mem_cons_of_mem _ ha) b (List.mem_cons_of_mem _ hb)) h1.2 h2.2]
theorem dn_eqv : ∀ (n m : Nat) (d e : PyData), dn n d = true → dn m e = true → (PyData.eqv d e = true ↔ d = e) := by
  intro n
  induction n with
  | zero =>
    intro m d e h h2
    cases d <;> try (simp [dn] at h; done)
    cases m <;> cases e <;> first | (simp [dn] at h2; done) | (simp [PyData.eqv]; done)
  | succ n ih =>
    intro m d e h h2
    cases d <;> try (simp [dn] at h; done)
    all_goals (cases m <;> cases e <;> try (first | (simp [dn] at h2; done) | (simp [PyData.eqv]; done)))
    · simp only [PyData.eqv, PyData.list.injEq]
      exact dn_eqvAll _ _ (fun x _ y _ hx hy => ih _ x y hx hy) h h2
    · simp only [PyData.eqv, PyData.tuple.injEq]
      exact dn_eqvAll _ _ (fun x _ y _ hx hy => ih _ x y hx hy) h h2
theorem dn_all {f : PyData → Bool} {n : Nat} (hf : ∀ d, f d = true → d.canLay0 = true ∧ d.depth ≤ n) : ∀ xs : List PyData, xs.all f = true → PyData.canLayAll0 xs = true ∧ PyData.depthAll xs ≤ n
  | [], _ => ⟨rfl, Nat.zero_le _⟩
  | x :: xs, h => by
    simp only [List.all_cons, Bool.and_eq_true] at h
    have h1 := hf x h.1
    have h2 := dn_all hf xs h.2
    simp only [PyData.canLayAll0, PyData.depthAll, h1.1, h2.1, Bool.and_self, true_and]
    omega
theorem dn_lay : ∀ (n : Nat) (d : PyData), dn n d = true → d.canLay0 = true ∧ d.depth ≤ n := by
  intro n
  induction n with
  | zero =>
    intro d h
    cases d <;> first | (simp [dn] at h; done) | exact ⟨by simp [PyData.canLay0], by simp [PyData.depth]⟩
  | succ n ih =>
    intro d h
    cases d <;> try (first | (simp [dn] at h; done) | (constructor <;> (simp [PyData.canLay0, PyData.depth]; done)))
    all_goals
      have h2 := dn_all (n := n) ih _ h
      simp only [PyData.canLay0, PyData.depth]
      exact ⟨h2.1, by omega⟩
theorem dn_shaped {n : Nat} {d : PyData} (h : dn n d = true) (hn : n ≤ 64) : SeqAt.shaped d = true := by
  have := dn_lay n d h
  unfold SeqAt.shaped
  rw [this.1, Bool.true_and]
  exact decide_eq_true (by omega)
theorem gEqB_dn {n m : Nat} {d e : PyData} {p : Prop} [Decidable p] (h : dn n d = true) (h2 : dn m e = true) (hn : n ≤ 64) (hm : m ≤ 64) (hp : d = e ↔ p) : gEqB d e = .ok (decide p) := by
  have h3 := dn_eqv n m d e h h2
  have e2 : PyData.eqv d e = decide p := by
    by_cases q : p
    · rw [decide_eq_true q, h3.mpr (hp.mpr q)]
    · rw [decide_eq_false q]
      exact Bool.eq_false_iff.mpr fun z => q (hp.mp (h3.mp z))
  have k : SeqAt.shaped d = true ∧ SeqAt.shaped e = true := ⟨dn_shaped h hn, dn_shaped h2 hm⟩
  unfold gEqB
  split
  · rename_i i j
    have : (i = j) ↔ p := by rw [← hp]; simp
    simp only [this]
  · cases n <;> (simp [dn] at h; done)
  · cases n <;> (simp [dn] at h; done)
  · rw [if_pos k, e2]
theorem gEq_dn {n m : Nat} {d e : PyData} {p : Prop} [Decidable p] (h : dn n d = true) (h2 : dn m e = true) (hn : n ≤ 64) (hm : m ≤ 64) (hp : d = e ↔ p) : gEq d e = retB (decide p) := by unfold gEq; rw [gEqB_dn h h2 hn hm hp]; rfl
theorem gNe_dn {n m : Nat} {d e : PyData} {p : Prop} [Decidable p] (h : dn n d = true) (h2 : dn m e = true) (hn : n ≤ 64) (hm : m ≤ 64) (hp : d = e ↔ p) : gNe d e = retB (!decide p) := by unfold gNe; rw [gEqB_dn h h2 hn hm hp]; rfl
theorem dn_ints (n : Nat) (xs : List Int) : (xs.map PyData.int).all (dn n) = true := List.all_eq_true.mpr fun d hd => by
  obtain ⟨i, _, e⟩ := List.mem_map.mp hd
  rw [← e]
  exact dn_int n i
theorem dn_row (xs : List Int) : dn 1 (rowD xs) = true := dn_ints 0 xs
theorem dn_lst {α : Type} {n : Nat} {f : α → PyData} (h : ∀ a, dn n (f a) = true) (xs : List α) : dn (n + 1) (.list (xs.map f)) = true := List.all_eq_true.mpr fun d hd => by
  obtain ⟨i, _, e⟩ := List.mem_map.mp hd
  rw [← e]
  exact h i
theorem map_inj {α β : Type} {f : α → β} (h : ∀ a b, f a = f b → a = b) : ∀ {xs ys : List α}, xs.map f = ys.map f ↔ xs = ys
  | [], [] => by simp
  | [], _ :: _ => by simp
  | _ :: _, [] => by simp
  | x :: xs, y :: ys => by
    simp only [List.map_cons, List.cons.injEq, map_inj h]
    exact ⟨fun z => ⟨h _ _ z.1, z.2⟩, fun z => ⟨by rw [z.1], z.2⟩⟩
theorem int_inj (a b : Int) (h : PyData.int a = PyData.int b) : a = b := PyData.int.inj h
theorem row_inj {a b : List Int} : rowD a = rowD b ↔ a = b := by
  simp only [rowD, PyData.tuple.injEq, map_inj int_inj]
theorem gEq_row {a b : List Int} : gEq (rowD a) (rowD b) = retB (decide (a = b)) := gEq_dn (dn_row a) (dn_row b) (by decide) (by decide) row_inj
theorem gNe_row {a b : List Int} : gNe (rowD a) (rowD b) = retB (!decide (a = b)) := gNe_dn (dn_row a) (dn_row b) (by decide) (by decide) row_inj
theorem gEq_ints {a b : List Int} : gEq (.list (a.map PyData.int)) (.list (b.map PyData.int)) = retB (decide (a = b)) := gEq_dn (n := 1) (m := 1) (dn_ints 0 a) (dn_ints 0 b) (by decide) (by decide) (by simp only [PyData.list.injEq, map_inj int_inj])
theorem gNe_ints {a b : List Int} : gNe (.list (a.map PyData.int)) (.list (b.map PyData.int)) = retB (!decide (a = b)) := gNe_dn (n := 1) (m := 1) (dn_ints 0 a) (dn_ints 0 b) (by decide) (by decide) (by simp only [PyData.list.injEq, map_inj int_inj])
/-- a pair of rows -/
abbrev prD (p : List Int × List Int) : PyData := .tuple [rowD p.1, rowD p.2]
theorem dn_pr (p : List Int × List Int) : dn 2 (prD p) = true := by
  show ((dn 1 (rowD p.1)) && ((dn 1 (rowD p.2)) && true)) = true
  rw [dn_row, dn_row]
  rfl
theorem pr_inj {p q : List Int × List Int} : prD p = prD q ↔ p = q := by
  obtain ⟨a, b⟩ := p
  obtain ⟨c, d⟩ := q
  simp only [prD, PyData.tuple.injEq, List.cons.injEq, and_true, Prod.mk.injEq]
  simp only [map_inj int_inj]
theorem gEq_pr {a b : List Int × List Int} : gEq (prD a) (prD b) = retB (decide (a = b)) := gEq_dn (dn_pr a) (dn_pr b) (by decide) (by decide) pr_inj
theorem gNe_pr {a b : List Int × List Int} : gNe (prD a) (prD b) = retB (!decide (a = b)) := gNe_dn (dn_pr a) (dn_pr b) (by decide) (by decide) pr_inj

/-! ### order of rows -/
def cmpL (op : CmpOp) : List Int → List Int → Bool
  | [], [] => cmpI op 0 0
  | [], _ :: _ => cmpI op 0 1
  | _ :: _, [] => cmpI op 1 0
  | x :: xs, y :: ys => if x = y then cmpL op xs ys else cmpI op x y
theorem lexD_ints {op : CmpOp} {n : Nat} : ∀ (a b : List Int), lexD op (cmpD op (n + 1)) (a.map PyData.int) (b.map PyData.int) = some (cmpL op a b)
  | [], [] => rfl
  | [], _ :: _ => rfl
  | _ :: _, [] => rfl
  | x :: xs, y :: ys => by
    have e : PyData.eqv (.int x) (.int y) = decide (x = y) := by simp only [PyData.eqv]; rfl
    simp only [List.map_cons, lexD, e, lexD_ints xs ys, cmpL, decide_eq_true_eq]
    split <;> rfl
theorem cmpD_row {op : CmpOp} {n : Nat} {a b : List Int} : cmpD op (n + 2) (rowD a) (rowD b) = some (cmpL op a b) := lexD_ints a b
theorem dn_cmp {n m : Nat} {d e : PyData} {op : CmpOp} {b : Bool} (h : dn n d = true) (h2 : dn m e = true) (hn : n ≤ 30) (hm : m ≤ 30) (hc : cmpD op 4 d e = some b) : gCmp op d e = retB b := by
  unfold gCmp
  split
  · rename_i i j
    have : cmpD op 4 (.int i) (.int j) = some (cmpI op i j) := rfl
    rw [this] at hc
    cases hc
    rfl
  · have k1 := dn_lay n d h
    have k2 := dn_lay m e h2
    rw [if_pos ⟨dn_shaped h (by omega), dn_shaped h2 (by omega), by omega, by omega⟩, hc]
theorem gCmp_row {op : CmpOp} {a b : List Int} : gCmp op (rowD a) (rowD b) = retB (cmpL op a b) := dn_cmp (dn_row a) (dn_row b) (by decide) (by decide) cmpD_row
def cmpP (op : CmpOp) (p q : List Int × List Int) : Bool := if p.1 = q.1 then (if p.2 = q.2 then cmpI op 0 0 else cmpL op p.2 q.2) else cmpL op p.1 q.1
theorem eqv_row {a b : List Int} : PyData.eqv (rowD a) (rowD b) = true ↔ a = b := (dn_eqv 1 1 _ _ (dn_row a) (dn_row b)).trans row_inj
theorem gCmp_pr {op : CmpOp} {p q : List Int × List Int} : gCmp op (prD p) (prD q) = retB (cmpP op p q) := by
  refine dn_cmp (dn_pr p) (dn_pr q) (by decide) (by decide) ?_
  show lexD op (cmpD op 3) [rowD p.1, rowD p.2] [rowD q.1, rowD q.2] = _
  simp only [lexD, eqv_row, cmpD_row (n := 1), cmpP]
  by_cases h1 : p.1 = q.1 <;> by_cases h2 : p.2 = q.2 <;> simp [h1, h2]
theorem cmpL_ge (a b : List Int) : cmpL .GtE a b = cmpL .LtE b a := by
  induction a generalizing b with
  | nil => cases b <;> rfl
  | cons x xs ih =>
    cases b with
    | nil => rfl
    | cons y ys =>
      simp only [cmpL, cmpI, eq_comm (a := y) (b := x), ih]
theorem cmpL_gt (a b : List Int) : cmpL .Gt a b = cmpL .Lt b a := by
  induction a generalizing b with
  | nil => cases b <;> rfl
  | cons x xs ih =>
    cases b with
    | nil => rfl
    | cons y ys =>
      simp only [cmpL, cmpI, eq_comm (a := y) (b := x), ih]
theorem cmpL_le (a b : List Int) : cmpL .LtE a b = !cmpL .Lt b a := by
  induction a generalizing b with
  | nil => cases b <;> rfl
  | cons x xs ih =>
    cases b with
    | nil => rfl
    | cons y ys =>
      simp only [cmpL, cmpI, eq_comm (a := y) (b := x), ih]
      split
      · rfl
      · by_cases h : x ≤ y
        · rw [decide_eq_true h, decide_eq_false (by omega)]; rfl
        · rw [decide_eq_false h, decide_eq_true (by omega)]; rfl
theorem cmpL_irr (a : List Int) : cmpL .Lt a a = false := by
  induction a with
  | nil => rfl
  | cons x xs ih => simp only [cmpL, ih, if_true]
theorem cmpL_asym (a b : List Int) (h : cmpL .Lt a b = true) : cmpL .Lt b a = false := by
  induction a generalizing b with
  | nil => cases b <;> first | rfl | (exact absurd h (by decide))
  | cons x xs ih =>
    cases b with
    | nil => exact absurd h (by simp [cmpL, cmpI])
    | cons y ys =>
      simp only [cmpL, cmpI, eq_comm (a := y) (b := x)] at h ⊢
      by_cases e : x = y
      · rw [if_pos e] at h ⊢
        exact ih ys h
      · rw [if_neg e] at h ⊢
        simp only [decide_eq_true_eq] at h
        exact decide_eq_false (by omega)
theorem cmpL_tri (a b : List Int) (h : cmpL .Lt a b = false) (h2 : cmpL .Lt b a = false) : a = b := by
  induction a generalizing b with
  | nil => cases b <;> first | rfl | (simp [cmpL, cmpI] at h; done)
  | cons x xs ih =>
    cases b with
    | nil => exact absurd h2 (by simp [cmpL, cmpI])
    | cons y ys =>
      simp only [cmpL, cmpI, eq_comm (a := y) (b := x)] at h h2
      by_cases e : x = y
      · rw [if_pos e] at h h2
        rw [e, ih ys h h2]
      · rw [if_neg e] at h h2
        simp only [decide_eq_false_iff_not] at h h2
        omega

/-! ### loops over typed lists -/
theorem lcF_gen {α : Type} {bd : PyData → Env → M Env} {tt : Env → M Bool} {fe : Env → M Sl} {ρ : Env} {e : α → PyData} (p : α → Bool) (g : α → PyData) : ∀ (ls : List α), (∀ a ∈ ls, ∃ ρ1, bd (e a) ρ = .ok ρ1 ∧ tt ρ1 = .ok (p a) ∧ (p a = true → ∃ y, fe ρ1 = .ok y ∧ y.d = g a)) → lcF bd tt fe (ls.map e) ρ = .ok ((ls.filter p).map g)
  | [], _ => rfl
  | a :: ls, h => by
    obtain ⟨ρ1, h1, h2, h3⟩ := h a (List.mem_cons_self ..)
    have ih := lcF_gen p g ls fun b hb => h b (List.mem_cons_of_mem _ hb)
    rw [List.map_cons]
    unfold lcF
    rw [h1]
    simp only [noX, bind_ok, h2]
    cases hp : p a with
    | false => rw [if_neg (by decide), List.filter_cons_of_neg (by simp [hp])]; exact ih
    | true =>
      obtain ⟨y, h4, h5⟩ := h3 hp
      rw [if_pos rfl, h4, ih, List.filter_cons_of_pos hp]
      simp only [noX, bind_ok, List.map_cons, h5]
theorem lcF_map {α : Type} {bd : PyData → Env → M Env} {fe : Env → M Sl} {ρ : Env} {e : α → PyData} (g : α → PyData) (ls : List α) (h : ∀ a ∈ ls, ∃ ρ1, bd (e a) ρ = .ok ρ1 ∧ ∃ y, fe ρ1 = .ok y ∧ y.d = g a) : lcF bd (fun _ => .ok true) fe (ls.map e) ρ = .ok (ls.map g) := by
  have := lcF_gen (bd := bd) (tt := fun _ => .ok true) (fe := fe) (ρ := ρ) (e := e) (fun _ => true) g ls fun a ha => by
    obtain ⟨ρ1, h1, y, h2, h3⟩ := h a ha
    exact ⟨ρ1, h1, rfl, fun _ => ⟨y, h2, h3⟩⟩
  rwa [List.filter_eq_self.mpr fun _ _ => rfl] at this
theorem oFor_pre {α : Type} {bd : PyData → Env → M Env} {body : Env → O} {e : α → PyData} (P : List α → Env → Prop) (ls : List α) (ρ : Env) (h0 : P [] ρ)
    (st : ∀ pre a post ρ, ls = pre ++ a :: post → P pre ρ → ∃ ρ1 ρ2, bd (e a) ρ = .ok ρ1 ∧ (body ρ1 = .nx ρ2 ∨ body ρ1 = .ct ρ2) ∧ P (pre ++ [a]) ρ2) : ∃ ρ', oFor bd body (ls.map e) ρ = .nx ρ' ∧ P ls ρ' := by
  suffices H : ∀ (post pre : List α) (ρ : Env), ls = pre ++ post → P pre ρ → ∃ ρ', oFor bd body (post.map e) ρ = .nx ρ' ∧ P ls ρ' from H ls [] ρ rfl h0
  intro post
  induction post with
  | nil => exact fun pre ρ hl hp => ⟨ρ, rfl, by rw [hl, List.append_nil]; exact hp⟩
  | cons a post ih =>
    intro pre ρ hl hp
    obtain ⟨ρ1, ρ2, k1, k2, k3⟩ := st pre a post ρ hl hp
    obtain ⟨ρ', j1, j2⟩ := ih (pre ++ [a]) ρ2 (by rw [hl]; simp) k3
    refine ⟨ρ', ?_, j2⟩
    rw [List.map_cons]
    unfold oFor
    rw [k1, oOf_ok]
    rcases k2 with k2 | k2 <;> rw [k2] <;> exact j1
theorem rng_map (n : Nat) : rng 0 n = (List.range n).map fun (i : Nat) => PyData.int (i : Int) := by
  unfold rng
  exact List.map_congr_left fun i _ => by rw [Int.zero_add]
theorem zipD_ints (a b : List Int) : zipD (a.map PyData.int) (b.map PyData.int) = (a.zip b).map fun p => PyData.tuple [.int p.1, .int p.2] := by
  unfold zipD
  induction a generalizing b with
  | nil => rfl
  | cons x xs ih =>
    cases b with
    | nil => rfl
    | cons y ys => simp only [List.map_cons, List.zipWith_cons_cons, List.zip_cons_cons, ih]
end Dl
/-! Specs of the common defs. -/
namespace Dl
open PySem PySem.Spec PyProof.Rows L2
def seen (a b : List Int) : List Int := (a.zip b).map fun p => if p.1 = p.2 then p.1 else 2
theorem seen_of_spec (a b : List Int) (h : a.length ≤ 1000000) : f_seen_of [rowD a, rowD b] = .ok (.dat (rowD (seen a b))) := by
  have e := lcF_map (bd := bTup 2 (bCons (bN 2) (bCons (bN 3) bNil))) (fe := eIf (tOf (eOp gEq (eVar 2) (eVar 3))) (eVar 2) (eC (.int 2))) (ρ := [some (.dat (rowD a)), some (.dat (rowD b)), none, none]) (e := fun p : Int × Int => PyData.tuple [.int p.1, .int p.2]) (fun p => .int (if p.1 = p.2 then p.1 else 2)) (a.zip b) fun p _ => by
    refine ⟨_, by walk_at "ev"; rfl, ?_⟩
    by_cases h : p.1 = p.2 <;> exact ⟨_, by walk_at "evs"; rfl, by simp only [h]; rfl⟩
  have hb : (a.zip b).length ≤ 16777216 := by rw [List.length_zip]; omega
  unfold f_seen_of o_seen_of
  walk_at "ev"
  rw [zipD_ints, e]
  walk_at "evs"
  simp only [seen, rowD, List.map_map]
  rfl
theorem whole_spec (i : Int) : f_law_whole [.int i] = .ok (.dat (.bool true)) := by
  unfold f_law_whole o_law_whole
  walk_at "ev"
  
theorem is_row_spec (a : List Int) (n m : Int) (hn : (a.length : Int) = n) (hm : ∀ x ∈ a, 0 ≤ x ∧ x ≤ m) : f_law_is_row [rowD a, .int n, .int m] = .ok (.dat (.bool true)) := by
  unfold f_law_is_row o_law_is_row
  obtain ⟨ρ', k1, k2⟩ := oFor_pre (bd := bN 3) (body := oIf (tOrF (tNotF (tOf (eCall f_law_whole (aCons (eVar 3) aNil)))) (tOrF (tOf (eOp (gCmp .Lt) (eVar 3) (eC (.int 0)))) (tOf (eOp (gCmp .Gt) (eVar 3) (eVar 2))))) (oRet (eC (.bool false))) oNx) (e := PyData.int)
    (fun _ ρ => ∃ x, ρ = [some (.dat (rowD a)), some (.dat (.int n)), some (.dat (.int m)), x]) a [some (.dat (rowD a)), some (.dat (.int n)), some (.dat (.int m)), none] ⟨_, rfl⟩ fun pre x post ρ hl hp => by
      obtain ⟨z, rfl⟩ := hp
      have hx := hm x (by rw [hl]; simp)
      have h1 : ¬ (x < 0) := by omega
      have h2 : ¬ (m < x) := by omega
      have h3 := whole_spec x
      exact ⟨_, _, by walk_at "ev"; rfl, .inl (by walk_at "evs"; rfl), _, rfl⟩
  obtain ⟨x, rfl⟩ := k2
  walk_at "ev"
  walk_at "evs"

theorem zip_range_map {β : Type} (a b : List Int) (f : Int → Int → β) (h : b.length = a.length) : (List.range a.length).map (fun i => f (a.getD i 0) (b.getD i 0)) = (a.zip b).map fun p => f p.1 p.2 := by
  refine List.ext_getElem (by simp [h]) fun i h1 h2 => ?_
  simp at h1
  simp [List.getD_eq_getElem?_getD, h1, show i < b.length by omega]
theorem law_seen_spec (a b : List Int) (h : a.length ≤ 1000000) (hl : b.length = a.length) : f_law_seen [rowD a, rowD b] = .ok (.dat (rowD (seen a b))) := by
  obtain ⟨ρ', k1, k2⟩ := oFor_pre (bd := bN 3) (body := oMutS (mMut 2 gAppend (aCons (eIf (tOf (eOp gEq (eOp gIx (eVar 0) (eVar 3)) (eOp gIx (eVar 1) (eVar 3)))) (eOp gIx (eVar 0) (eVar 3)) (eC (.int 2))) aNil))) (e := fun (i : Nat) => PyData.int (i : Int))
    (fun pre ρ => ∃ x, ρ = [some (.dat (rowD a)), some (.dat (rowD b)), some (.own (.list ((pre.map fun i => if a.getD i 0 = b.getD i 0 then a.getD i 0 else 2).map PyData.int))), x]) (List.range a.length) [some (.dat (rowD a)), some (.dat (rowD b)), some (.own (.list [])), none] ⟨_, rfl⟩ fun pre i post ρ hl2 hp => by
      obtain ⟨z, rfl⟩ := hp
      have hi : i < a.length := by
        have : i ∈ List.range a.length := by rw [hl2]; simp
        exact List.mem_range.mp this
      have hpl : pre.length ≤ a.length := by
        have := congrArg List.length hl2
        simp at this
        omega
      have h1 := gIx_t (atI_map (xs := a) (k := i) (by omega) (by omega))
      have h2 := gIx_t (atI_map (xs := b) (k := i) (by omega) (by omega))
      have h4 : pre.length + 1 ≤ 16777216 := by omega
      rw [Int.toNat_natCast] at h1 h2
      refine ⟨_, [some (.dat (rowD a)), some (.dat (rowD b)), some (.own (.list (((pre ++ [i]).map fun i => if a.getD i 0 = b.getD i 0 then a.getD i 0 else 2).map PyData.int))), some (.dat (.int i))], by walk_at "ev"; rfl, .inl ?_, ?_⟩
      · clear hl2 h hl hi hpl
        rw [List.map_append, List.map_append]
        by_cases h3 : a.getD i 0 = b.getD i 0
        · walk_at "evs"
        · walk_at "evs"
      · exact ⟨_, rfl⟩
  obtain ⟨x, rfl⟩ := k2
  have hr := rng_map a.length
  have h1 : -1000000 ≤ (a.length : Int) := by omega
  have h2 : (a.length : Int) ≤ 1000000 := by omega
  unfold f_law_seen o_law_seen
  walk_at "evs"
  rw [Int.toNat_natCast]
  walk_at "evs"
  rw [zip_range_map a b (fun x y => if x = y then x else 2) hl]
  rfl
def pairUp (a b : List Int) : List Int × List Int := if cmpL .LtE a b = true then (a, b) else (b, a)
theorem in_order_spec (a b : List Int) : f_in_order [rowD a, rowD b] = .ok (.dat (prD (pairUp a b))) := by
  unfold f_in_order o_in_order
  have h := gCmp_row (op := .Lt) (a := b) (b := a)
  cases hc : cmpL .Lt b a with
  | true =>
    rw [hc] at h
    walk_at "evs"
    simp only [pairUp, cmpL_le, hc]
    rfl
  | false =>
    rw [hc] at h
    walk_at "evs"
    simp only [pairUp, cmpL_le, hc]
    rfl
theorem pair_up_spec (a b : List Int) : f_law_pair_up [rowD a, rowD b] = .ok (.dat (prD (pairUp a b))) := by
  unfold f_law_pair_up o_law_pair_up
  have h := gCmp_row (op := .LtE) (a := a) (b := b)
  cases hc : cmpL .LtE a b with
  | true =>
    rw [hc] at h
    walk_at "evs"
    simp only [pairUp, hc]
    rfl
  | false =>
    rw [hc] at h
    walk_at "evs"
    simp only [pairUp, hc]
    rfl
theorem pairUp_comm (a b : List Int) : pairUp a b = pairUp b a := by
  unfold pairUp
  rw [cmpL_le a b, cmpL_le b a]
  cases h1 : cmpL .Lt b a <;> cases h2 : cmpL .Lt a b
  · have := cmpL_tri b a h1 h2
    rw [this]
  · rfl
  · rfl
  · rw [cmpL_asym _ _ h1] at h2
    cases h2
theorem enumD_ints (a : List Int) : enumD (a.map PyData.int) = (List.range a.length).map fun (i : Nat) => PyData.tuple [.int (i : Int), .int (a.getD i 0)] := by
  unfold enumD
  refine List.ext_getElem (by simp) fun i h1 h2 => ?_
  simp at h1
  simp [List.getD_eq_getElem?_getD, h1]
theorem seen_comm (a b : List Int) : seen a b = seen b a := by
  unfold seen
  induction a generalizing b with
  | nil => cases b <;> rfl
  | cons x xs ih =>
    cases b with
    | nil => rfl
    | cons y ys =>
      simp only [List.zip_cons_cons, List.map_cons, ih]
      by_cases h : x = y
      · simp [h]
      · simp [h, Ne.symm h, eq_comm]
theorem seen_length (a b : List Int) (h : b.length = a.length) : (seen a b).length = a.length := by simp [seen, h]
theorem seen_getD (a b : List Int) (h : b.length = a.length) (i : Nat) (hi : i < a.length) : (seen a b).getD i 0 = if a.getD i 0 = b.getD i 0 then a.getD i 0 else 2 := by
  have hz : i < (seen a b).length := by rw [seen_length a b h]; exact hi
  rw [List.getD_eq_getElem?_getD, List.getElem?_eq_getElem hz, List.getD_eq_getElem?_getD, List.getElem?_eq_getElem hi, List.getD_eq_getElem?_getD, List.getElem?_eq_getElem (show i < b.length by omega)]
  simp [seen]
theorem getDP {P : Int → Prop} (a : List Int) (h : ∀ x ∈ a, P x) (i : Nat) (hi : i < a.length) : P (a.getD i 0) := by
  rw [List.getD_eq_getElem?_getD, List.getElem?_eq_getElem hi]
  exact h _ (List.getElem_mem hi)
/-- a plain row -/
def plainR (a : List Int) : Prop := ∀ x ∈ a, 0 ≤ x ∧ x < 2
theorem seen_marks (a b : List Int) (ha : plainR a) : ∀ x ∈ seen a b, 0 ≤ x ∧ x ≤ 2 := by
  intro x hx
  obtain ⟨p, hp, e⟩ := List.mem_map.mp hx
  have := ha p.1 (List.of_mem_zip hp).1
  split at e <;> omega
theorem seen_mixed (a b : List Int) (h : b.length = a.length) (ha : plainR a) (i : Nat) (hi : i < a.length) : ((seen a b).getD i 0 = 2) ↔ (a.getD i 0 ≠ b.getD i 0) := by
  rw [seen_getD a b h i hi]
  have := getDP a ha i hi
  split
  · rename_i e
    constructor
    · intro z; omega
    · intro z; exact absurd e z
  · rename_i e
    exact ⟨fun _ => e, fun _ => rfl⟩
theorem gAll_true (k : Nat) : gAllAny (fun bs => bs.all id) [.list (List.replicate k (.bool true))] = retB true := by
  have h : ∀ k, boolsOf (List.replicate k (.bool true)) = some (List.replicate k true) := by
    intro k
    induction k with
    | zero => rfl
    | succ k ih => rw [List.replicate_succ, List.replicate_succ, boolsOf, ih]; rfl
  unfold gAllAny
  simp only [h]
  simp
theorem gAll_map (a : List Int) (p : Int → Bool) : gAllAny (fun bs => bs.all id) [.list (a.map fun x => .bool (p x))] = retB (a.all p) := by
  have h : boolsOf (a.map fun x => .bool (p x)) = some (a.map p) := by
    induction a with
    | nil => rfl
    | cons x xs ih => rw [List.map_cons, boolsOf, ih]; rfl
  unfold gAllAny
  simp only [h, List.all_map]
  rfl
end Dl
/-! growing a tree -/
namespace Dl
open PySem PySem.Spec PyProof.Rows L2
def flipR (r : List Int) (m : Nat) : List Int := r.set m (1 - r.getD m 0)
theorem flip_spec (r : List Int) (m : Int) (h0 : 0 ≤ m) (hm : m < (r.length : Int)) (hl : r.length ≤ 1000000) : f_law_flip [rowD r, .int m] = .ok (.dat (rowD (flipR r m.toNat))) := by
  have hx := gIx_t (atI_map (xs := r) h0 hm)
  have s1 := cut_to (l := r.map PyData.int) h0 (by simp; omega)
  have s2 := cut_from (l := r.map PyData.int) (i := m + 1) (by omega) (by simp; omega)
  have t1 : ((r.map PyData.int).take m.toNat).length + 1 ≤ 16777216 := by simp; omega
  have t2 : ((r.map PyData.int).take m.toNat).length + 1 + ((r.map PyData.int).drop (m + 1).toNat).length ≤ 16777216 := by simp; omega
  have e : (r.map PyData.int).take m.toNat ++ [PyData.int (1 - r.getD m.toNat 0)] ++ (r.map PyData.int).drop (m + 1).toNat = (flipR r m.toNat).map PyData.int := by
    unfold flipR
    rw [List.set_eq_take_append_cons_drop, if_pos (by omega)]
    rw [show (m + 1).toNat = m.toNat + 1 by omega]
    simp
  unfold f_law_flip o_law_flip
  clear hl h0
  walk_at "evs"
/-! what the growing keeps -/
def pat (L : List (List Int)) (g : List Int) (i j : Nat) (x y : Bool) : Prop := ∃ r ∈ L, decide (r.getD i 0 ≠ g.getD i 0) = x ∧ decide (r.getD j 0 ≠ g.getD j 0) = y
def barL (L : List (List Int)) (g : List Int) (i j : Nat) : Prop := pat L g i j false true ∧ pat L g i j true false ∧ pat L g i j true true
structure Grown (g : List Int) (left : List Nat) (L : List (List Int)) : Prop where
  len : ∀ r ∈ L, r.length = g.length
  plain : ∀ r ∈ L, plainR r
  ne : L ≠ []
  nd : left.Nodup
  lt : ∀ m ∈ left, m < g.length
  same : ∀ m ∈ left, ∀ r ∈ L, r.getD m 0 = g.getD m 0
  free : ∀ i j, i ≠ j → ¬ barL L g i j
theorem flip_getD {r : List Int} {m k : Nat} (h : k ≠ m) : (flipR r m).getD k 0 = r.getD k 0 := by
  unfold flipR
  rw [List.getD_eq_getElem?_getD, List.getElem?_set_ne (Ne.symm h), List.getD_eq_getElem?_getD]
theorem flip_at {r : List Int} {m : Nat} (h : m < r.length) : (flipR r m).getD m 0 = 1 - r.getD m 0 := by
  unfold flipR
  rw [List.getD_eq_getElem?_getD, List.getElem?_set_self h]
  rfl
theorem flip_plain {r : List Int} {m : Nat} (h : plainR r) : plainR (flipR r m) := by
  intro x hx
  by_cases hm : m < r.length
  · rcases List.mem_or_eq_of_mem_set hx with hx | hx
    · exact h x hx
    · have := getDP r h m hm
      omega
  · unfold flipR at hx
    rw [List.set_eq_of_length_le (by omega)] at hx
    exact h x hx
/-- one more row, a flipped one of these -/
theorem Grown.step {g : List Int} {left : List Nat} {L M : List (List Int)} {r : List Int} {m k : Nat} (G : Grown g left L) (hk : left[k]? = some m) (hr : r ∈ L) (hM : ∀ x ∈ M, x ∈ L) : Grown g (left.eraseIdx k) (M ++ [flipR r m]) := by
  have hml : m ∈ left := List.mem_of_getElem? hk
  have hmg := G.lt m hml
  have hsub : ∀ x ∈ left.eraseIdx k, x ∈ left ∧ x ≠ m := by
    intro x hx
    refine ⟨List.mem_of_mem_eraseIdx hx, fun e => ?_⟩
    subst e
    have h1 := List.getElem?_eq_some_iff.mp hk
    obtain ⟨hk1, hk2⟩ := h1
    rw [List.mem_eraseIdx_iff_getElem?] at hx
    obtain ⟨i, hik, hi⟩ := hx
    exact hik ((List.getElem?_inj (List.getElem?_eq_some_iff.mp hi).1 G.nd).mp (by rw [hi, hk]))
  have hrl := G.len r hr
  refine ⟨?_, ?_, by simp, ?_, ?_, ?_, ?_⟩
  · intro x hx
    rcases List.mem_append.mp hx with hx | hx
    · exact G.len x (hM x hx)
    · rw [List.mem_singleton.mp hx]
      unfold flipR
      rw [List.length_set]
      exact hrl
  · intro x hx
    rcases List.mem_append.mp hx with hx | hx
    · exact G.plain x (hM x hx)
    · rw [List.mem_singleton.mp hx]
      exact flip_plain (G.plain r hr)
  · exact G.nd.sublist (List.eraseIdx_sublist ..)
  · exact fun x hx => G.lt x (hsub x hx).1
  · intro x hx y hy
    rcases List.mem_append.mp hy with hy | hy
    · exact G.same x (hsub x hx).1 y (hM y hy)
    · rw [List.mem_singleton.mp hy, flip_getD (hsub x hx).2]
      exact G.same x (hsub x hx).1 r hr
  · intro i j hij hb
    have old : ∀ {x y : Bool} {a b : Nat}, a ≠ m → b ≠ m → pat (M ++ [flipR r m]) g a b x y → pat L g a b x y := by
      rintro x y a b ha hb ⟨z, hz, h1, h2⟩
      rcases List.mem_append.mp hz with hz | hz
      · exact ⟨z, hM z hz, h1, h2⟩
      · rw [List.mem_singleton.mp hz, flip_getD ha] at h1
        rw [List.mem_singleton.mp hz, flip_getD hb] at h2
        exact ⟨r, hr, h1, h2⟩
    -- at m only the new row is unlike
    have only : ∀ {z : List Int}, z ∈ M ++ [flipR r m] → z.getD m 0 ≠ g.getD m 0 → z = flipR r m := by
      intro z hz hne
      rcases List.mem_append.mp hz with hz | hz
      · exact absurd (G.same m hml z (hM z hz)) hne
      · exact List.mem_singleton.mp hz
    by_cases hi : i = m
    · subst hi
      obtain ⟨_, ⟨z, hz, h1, h2⟩, ⟨w, hw, h3, h4⟩⟩ := hb
      have e1 := only hz (of_decide_eq_true h1)
      have e2 := only hw (of_decide_eq_true h3)
      rw [e1] at h2
      rw [e2, h2] at h4
      cases h4
    · by_cases hj : j = m
      · subst hj
        obtain ⟨⟨z, hz, h1, h2⟩, _, ⟨w, hw, h3, h4⟩⟩ := hb
        have e1 := only hz (of_decide_eq_true h2)
        have e2 := only hw (of_decide_eq_true h4)
        rw [e1] at h1
        rw [e2, h1] at h3
        cases h3
      · exact G.free i j hij ⟨old hi hj hb.1, old hi hj hb.2.1, old hi hj hb.2.2⟩
theorem Grown.skip {g : List Int} {left : List Nat} {L : List (List Int)} (k : Nat) (G : Grown g left L) : Grown g (left.eraseIdx k) L :=
  ⟨G.len, G.plain, G.ne, G.nd.sublist (List.eraseIdx_sublist ..), fun m hm => G.lt m (List.mem_of_mem_eraseIdx hm), fun m hm => G.same m (List.mem_of_mem_eraseIdx hm), G.free⟩
theorem Grown.start {g : List Int} (hg : plainR g) : Grown g (List.range g.length) [g] := by
  refine ⟨by simp, by simpa using hg, by simp, List.nodup_range, fun m hm => List.mem_range.mp hm, by simp, ?_⟩
  rintro i j _ ⟨⟨z, hz, _, h2⟩, _⟩
  rw [List.mem_singleton.mp hz] at h2
  simp at h2

/-! the walk -/
theorem pat_mono {L M : List (List Int)} {g : List Int} {i j : Nat} {x y : Bool} (h : ∀ r ∈ M, r ∈ L) (p : pat M g i j x y) : pat L g i j x y := by
  obtain ⟨r, hr, q⟩ := p
  exact ⟨r, h r hr, q⟩
theorem barL_mono {L M : List (List Int)} {g : List Int} {i j : Nat} (h : ∀ r ∈ M, r ∈ L) (p : barL M g i j) : barL L g i j := ⟨pat_mono h p.1, pat_mono h p.2.1, pat_mono h p.2.2⟩
theorem imm_row (xs : List Int) : imm (rowD xs) = true := immA_ints xs
theorem eraseIdx_mapN {α β : Type} (f : α → β) : ∀ (l : List α) (k : Nat), (l.map f).eraseIdx k = (l.eraseIdx k).map f
  | [], _ => rfl
  | _ :: _, 0 => rfl
  | a :: l, k + 1 => by rw [List.map_cons, List.eraseIdx_cons_succ, List.eraseIdx_cons_succ, List.map_cons, eraseIdx_mapN f l k]
theorem popAt_spec {left : List Nat} {k : Int} (h0 : 0 ≤ k) (hk : k < (left.length : Int)) (hl : left.length ≤ 1000000) {d : Nat} (hd : left[k.toNat]? = some d) : gPopAt (left.map fun (i : Nat) => PyData.int (i : Int)) [.int k] = some ((left.eraseIdx k.toNat).map fun (i : Nat) => PyData.int (i : Int), .int (d : Int)) := by
  have hb : big left.length = true := big_lt (by omega)
  unfold gPopAt
  simp only [List.length_map, h0, hk, hb, and_self, if_true, List.getElem?_map, hd, Option.map_some]
  rw [eraseIdx_mapN]
theorem grown_spec (g : List Int) (c : Int) (hg : plainR g) (hl : g.length ≤ 1000) : ∃ (left : List Nat) (L : List (List Int)), L.length ≤ g.length + 1 ∧ Grown g left L ∧ f_law_grown [rowD g, .int c] = .ok (.own (.list (L.map rowD))) := by
  obtain ⟨st, s1, s2, s3⟩ := row_spec c g.length 840 (by omega) (by omega) (by omega) (by omega)
  rw [Int.toNat_natCast] at s1
  obtain ⟨ρ', k1, left, L, x4, x5, c1, c2, G, rfl⟩ := oFor_pre (bd := bN 4) (body := (oSeq (oMutA 5 (mMut 3 gPopAt (aCons (ePub (eOp gMod (eVar 4) (eCall gLen (aCons (eVar 3) aNil)))) aNil)))
    (oSeq (oIf (tOf (eOp gEq (eOp gMod (eOp gDiv (eVar 4) (eC (.int 8))) (eC (.int 7))) (eC (.int 6)))) oCt oNx)
    (oIf (tPub (tAndF (tOf (eOp gEq (eOp gMod (eOp gDiv (eVar 4) (eC (.int 8))) (eC (.int 7))) (eC (.int 5)))) (tOf (eOp (gCmp .Gt) (eCall gLen (aCons (eVar 2) aNil)) (eC (.int 1)))))) (oMutS (mMutM 2 gAppend (amCons (mCall f_law_flip (amCons (mMut 2 gPop aNil) (aCons (eVar 5) aNil))) aNil))) (oMutS (mMut 2 gAppend (aCons (ePub (eCall f_law_flip (aCons (eOp gIx (eVar 2) (eOp gMod (eOp gDiv (eVar 4) (eC (.int 56))) (eCall gLen (aCons (eVar 2) aNil)))) (aCons (eVar 5) aNil)))) aNil))))))) (e := PyData.int)
    (fun pre ρ => ∃ (left : List Nat) (L : List (List Int)) (x4 x5 : Option Sl), left.length + pre.length = g.length ∧ L.length ≤ pre.length + 1 ∧ Grown g left L ∧ ρ = [some (.dat (rowD g)), some (.dat (.int c)), some (.own (.list (L.map rowD))), some (.own (.list (left.map fun (i : Nat) => PyData.int (i : Int)))), x4, x5]) st
    [some (.dat (rowD g)), some (.dat (.int c)), some (.own (.list [rowD g])), some (.own (.list ((List.range g.length).map fun (i : Nat) => PyData.int (i : Int)))), none, none] ⟨List.range g.length, [g], none, none, by simp, by simp, Grown.start hg, rfl⟩ fun pre x post ρ hl2 hp => by
      obtain ⟨left, L, x4, x5, c1, c2, G, rfl⟩ := hp
      have c3 := congrArg List.length hl2
      simp at c3
      have hleft : 0 < (left.length : Int) := by omega
      have k0 : 0 ≤ x % (left.length : Int) := Int.emod_nonneg _ (by omega)
      have k1 : x % (left.length : Int) < left.length := Int.emod_lt_of_pos _ hleft
      generalize hk : x % (left.length : Int) = k at k0 k1
      have hd : ∃ d, left[k.toNat]? = some d := ⟨left[k.toNat]'(by omega), List.getElem?_eq_getElem (by omega)⟩
      obtain ⟨d, hd⟩ := hd
      have hp := popAt_spec k0 k1 (by omega) hd
      have hdg := G.lt d (List.mem_of_getElem? hd)
      have e1 : (left.eraseIdx k.toNat).length + (pre ++ [x]).length = g.length := by
        rw [List.length_eraseIdx, if_pos (by omega), List.length_append, List.length_singleton]
        omega
      have hLne : 0 < L.length := List.length_pos_iff.mpr G.ne
      have hm1 : (left.map fun (i : Nat) => PyData.int (i : Int)).length = left.length := List.length_map ..
      have q0 : (oMutA 5 (mMut 3 gPopAt (aCons (ePub (eOp gMod (eVar 4) (eCall gLen (aCons (eVar 3) aNil)))) aNil))) [some (.dat (rowD g)), some (.dat (.int c)), some (.own (.list (L.map rowD))), some (.own (.list (left.map fun (i : Nat) => PyData.int (i : Int)))), some (.dat (.int x)), x5] =
          .nx [some (.dat (rowD g)), some (.dat (.int c)), some (.own (.list (L.map rowD))), some (.own (.list ((left.eraseIdx k.toNat).map fun (i : Nat) => PyData.int (i : Int)))), some (.dat (.int x)), some (.dat (.int (d : Int)))] := by
        clear hl2 s1 s2 s3 G hdg e1 c1 c2 c3
        walk_at "evs"
      have hLl : L.length ≤ 2000 := by omega
      by_cases t6 : x / 8 % 7 = 6
      · refine ⟨_, [some (.dat (rowD g)), some (.dat (.int c)), some (.own (.list (L.map rowD))), some (.own (.list ((left.eraseIdx k.toNat).map fun (i : Nat) => PyData.int (i : Int)))), some (.dat (.int x)), some (.dat (.int (d : Int)))], rfl, .inr ?_, left.eraseIdx k.toNat, L, _, _, e1, by rw [List.length_append]; omega, G.skip _, rfl⟩
        rw [show ([some (.dat (rowD g)), some (.dat (.int c)), some (.own (.list (L.map rowD))), some (.own (.list (left.map fun (i : Nat) => PyData.int (i : Int)))), x4, x5] : Env).set 4 (some (.dat (.int x))) = [some (.dat (rowD g)), some (.dat (.int c)), some (.own (.list (L.map rowD))), some (.own (.list (left.map fun (i : Nat) => PyData.int (i : Int)))), some (.dat (.int x)), x5] from rfl]
        refine seqN q0 ?_
        clear q0 hp hd hl2 s1 s2 s3 G hdg e1 c1 c2 c3 hm1 hk
        walk_at "evs"
      · have E0 : ∀ (M : List (List Int)), (List.map rowD M).length = M.length := fun M => List.length_map ..
        have n1 : ((d : Nat) : Int) < (g.length : Int) := by omega
        by_cases t5 : x / 8 % 7 = 5 ∧ (1 : Int) < (L.length : Int)
        · obtain ⟨t5, t7⟩ := t5
          obtain ⟨L', r, rfl⟩ := (List.eq_nil_or_concat L).resolve_left G.ne
          rw [List.concat_eq_append] at *
          have hrl := G.len r (by simp)
          have hf := flip_spec r d (by omega) (by omega) (by omega)
          rw [Int.toNat_natCast] at hf
          have G2 := G.step (k := k.toNat) (r := r) (M := L') hd (by simp) (fun y hy => by simp [hy])
          have hpop : gPop ((L' ++ [r]).map rowD) [] = some (L'.map rowD, rowD r) := by
            unfold gPop
            simp [List.map_append]
          have hbl : (L'.map rowD).length + 1 ≤ 16777216 := by
            rw [List.length_map]
            simp at hLl
            omega
          refine ⟨_, [some (.dat (rowD g)), some (.dat (.int c)), some (.own (.list ((L' ++ [flipR r d]).map rowD))), some (.own (.list ((left.eraseIdx k.toNat).map fun (i : Nat) => PyData.int (i : Int)))), some (.dat (.int x)), some (.dat (.int (d : Int)))], rfl, .inl ?_, left.eraseIdx k.toNat, L' ++ [flipR r d], _, _, e1, by simp at c2 ⊢; omega, G2, rfl⟩
          rw [show ([some (.dat (rowD g)), some (.dat (.int c)), some (.own (.list ((L' ++ [r]).map rowD))), some (.own (.list (left.map fun (i : Nat) => PyData.int (i : Int)))), x4, x5] : Env).set 4 (some (.dat (.int x))) = [some (.dat (rowD g)), some (.dat (.int c)), some (.own (.list ((L' ++ [r]).map rowD))), some (.own (.list (left.map fun (i : Nat) => PyData.int (i : Int)))), some (.dat (.int x)), x5] from rfl]
          refine seqN q0 ?_
          clear q0 hp hd hl2 s1 s2 s3 G hdg e1 c1 c2 c3 hm1 hk hLl hLne G2 hrl k0 k1 E0 n1
          rw [List.length_append, List.length_singleton] at t7
          rw [List.length_map] at hbl
          refine seqN (ifN_f (by walk_at "evs") rfl) ?_
          refine ifN_t (by walk_at "evs") ?_
          rw [List.map_append, List.map_cons, List.map_nil] at hpop
          rw [List.map_append]
          clear t7
          walk_at "evs"
          simp only [List.map_append, List.map_cons, List.map_nil]
        · have y0 : 0 ≤ x / 56 % (L.length : Int) := Int.emod_nonneg _ (by omega)
          have y1 : x / 56 % (L.length : Int) < L.length := Int.emod_lt_of_pos _ (by omega)
          have hLz : (0 : Int) < (L.length : Int) := by omega
          generalize hy : x / 56 % (L.length : Int) = y at y0 y1
          obtain ⟨r, hr⟩ : ∃ r, L[y.toNat]? = some r := ⟨L[y.toNat]'(by omega), List.getElem?_eq_getElem (by omega)⟩
          have hrm := List.mem_of_getElem? hr
          have hrl := G.len r hrm
          have hix : gIx (.list (L.map rowD)) (.int y) = .ok (.dat (rowD r)) := gIx_l (by rw [atI_pos y0, List.getElem?_map, hr]; rfl)
          have hf := flip_spec r d (by omega) (by omega) (by omega)
          rw [Int.toNat_natCast] at hf
          have G2 := G.step (k := k.toNat) (r := r) (M := L) hd hrm (fun y hy => hy)
          have hbl : (L.map rowD).length + 1 ≤ 16777216 := by rw [List.length_map]; omega
          refine ⟨_, [some (.dat (rowD g)), some (.dat (.int c)), some (.own (.list ((L ++ [flipR r d]).map rowD))), some (.own (.list ((left.eraseIdx k.toNat).map fun (i : Nat) => PyData.int (i : Int)))), some (.dat (.int x)), some (.dat (.int (d : Int)))], rfl, .inl ?_, left.eraseIdx k.toNat, L ++ [flipR r d], _, _, e1, by simp; omega, G2, rfl⟩
          rw [show ([some (.dat (rowD g)), some (.dat (.int c)), some (.own (.list (L.map rowD))), some (.own (.list (left.map fun (i : Nat) => PyData.int (i : Int)))), x4, x5] : Env).set 4 (some (.dat (.int x))) = [some (.dat (rowD g)), some (.dat (.int c)), some (.own (.list (L.map rowD))), some (.own (.list (left.map fun (i : Nat) => PyData.int (i : Int)))), some (.dat (.int x)), x5] from rfl]
          refine seqN q0 ?_
          clear q0 hp hd hl2 s1 s2 s3 G hdg e1 c1 c2 c3 hm1 hk hLl hLne G2 hrl k0 k1 E0 n1 hrm hr y0 y1
          refine seqN (ifN_f (by walk_at "evs") rfl) ?_
          have hbl2 : L.length + 1 ≤ 16777216 := by rw [List.length_map] at hbl; exact hbl
          refine ifN_f ?_ ?_
          · by_cases t8 : x / 8 % 7 = 5
            · have t9 : ¬ ((1 : Int) < (L.length : Int)) := fun z => t5 ⟨t8, z⟩
              clear t5
              walk_at "evs"
            · clear t5
              walk_at "evs"
          · clear t5
            walk_at "evs"
            simp only [List.map_append, List.map_cons, List.map_nil]
  refine ⟨left, L, by omega, G, ?_⟩
  have h1 : (0 : Int) ≤ (g.length : Int) := by omega
  have h2 : (g.length : Int) ≤ 10000 := by omega
  have hr := rng_map g.length
  unfold f_law_grown o_law_grown
  refine fnO_rt rfl ?_
  refine seqN (by walk_at "ev"; rfl) ?_
  refine seqN (ρ' := [some (.dat (rowD g)), some (.dat (.int c)), some (.own (.list [rowD g])), some (.own (.list ((List.range g.length).map fun (i : Nat) => PyData.int (i : Int)))), none, none]) ?_ ?_
  · clear k1 s3 hg
    simp only [eLstRg1, oSet]
    walk_at "evs"
    rw [Int.toNat_natCast, hr]
  refine seqN (forN (by walk_at "evs") k1) ?_
  walk_at "ev"
end Dl
/-! rows against the founder -/
namespace Dl
open PySem PySem.Spec PyProof.Rows L2
def agM (x g : Int) : Int := if x = 2 then 2 else (x + g) % 2
def ag (a b : List Int) : List Int := (a.zip b).map fun p => agM p.1 p.2
theorem changed_spec (x g : Int) : f_changed_mark [.int x, .int g] = .ok (.dat (.int (agM x g))) := by
  unfold f_changed_mark o_changed_mark
  by_cases h : x = 2
  · walk_at "evs"
    simp only [agM, h, if_true]
  · walk_at "evs"
    simp only [agM, h, if_false]
theorem against_spec (a b : List Int) (h : a.length ≤ 1000000) : f_against [rowD a, rowD b] = .ok (.dat (rowD (ag a b))) := by
  have e := lcF_map (bd := bTup 2 (bCons (bN 2) (bCons (bN 3) bNil))) (fe := eCall f_changed_mark (aCons (eVar 2) (aCons (eVar 3) aNil))) (ρ := [some (.dat (rowD a)), some (.dat (rowD b)), none, none]) (e := fun p : Int × Int => PyData.tuple [.int p.1, .int p.2]) (fun p => .int (agM p.1 p.2)) (a.zip b) fun p _ => by
    have := changed_spec p.1 p.2
    exact ⟨_, by walk_at "ev"; rfl, _, by walk_at "evs"; rfl, rfl⟩
  have hb : (a.zip b).length ≤ 16777216 := by rw [List.length_zip]; omega
  unfold f_against o_against
  walk_at "ev"
  rw [zipD_ints, e]
  walk_at "evs"
  simp only [ag, rowD, List.map_map]
  rfl
/-- marks of a sight -/
def sightR (a : List Int) : Prop := ∀ x ∈ a, 0 ≤ x ∧ x ≤ 2
theorem law_against_spec (a b : List Int) (h : a.length ≤ 1000000) (hl : b.length = a.length) (ha : sightR a) (hb : ∀ x ∈ b, 0 ≤ x ∧ x < 2) : f_law_against [rowD a, rowD b] = .ok (.dat (rowD (ag a b))) := by
  obtain ⟨ρ', k1, k2⟩ := oFor_pre (bd := bN 3) (body := oIf (tOf (eOp gEq (eOp gIx (eVar 0) (eVar 3)) (eC (.int 2)))) (oMutS (mMut 2 gAppend (aCons (eC (.int 2)) aNil))) (oMutS (mMut 2 gAppend (aCons (eIf (tOf (eOp gEq (eOp gIx (eVar 0) (eVar 3)) (eOp gIx (eVar 1) (eVar 3)))) (eC (.int 0)) (eC (.int 1))) aNil)))) (e := fun (i : Nat) => PyData.int (i : Int))
    (fun pre ρ => ∃ x, ρ = [some (.dat (rowD a)), some (.dat (rowD b)), some (.own (.list ((pre.map fun i => agM (a.getD i 0) (b.getD i 0)).map PyData.int))), x]) (List.range b.length) [some (.dat (rowD a)), some (.dat (rowD b)), some (.own (.list [])), none] ⟨_, rfl⟩ fun pre i post ρ hl2 hp => by
      obtain ⟨z, rfl⟩ := hp
      have hi : i < b.length := by
        have : i ∈ List.range b.length := by rw [hl2]; simp
        exact List.mem_range.mp this
      have hpl : pre.length ≤ b.length := by
        have := congrArg List.length hl2
        simp at this
        omega
      have h1 := gIx_t (atI_map (xs := a) (k := i) (by omega) (by omega))
      have h2 := gIx_t (atI_map (xs := b) (k := i) (by omega) (by omega))
      have h4 : pre.length + 1 ≤ 16777216 := by omega
      rw [Int.toNat_natCast] at h1 h2
      have m1 := getDP a ha i (by omega)
      have m2 := getDP b hb i (by omega)
      refine ⟨_, [some (.dat (rowD a)), some (.dat (rowD b)), some (.own (.list (((pre ++ [i]).map fun i => agM (a.getD i 0) (b.getD i 0)).map PyData.int))), some (.dat (.int i))], by walk_at "ev"; rfl, .inl ?_, ⟨_, rfl⟩⟩
      clear hl2 h hl hi hpl ha hb
      rw [List.map_append, List.map_append]
      simp only [List.map_cons, List.map_nil]
      generalize a.getD i 0 = x at h1 m1
      generalize b.getD i 0 = y at h2 m2
      by_cases h3 : x = 2
      · simp only [agM, h3, if_true]
        subst h3
        clear m1 m2
        walk_at "evs"
      · by_cases h5 : x = y
        · have e : agM x y = 0 := by simp only [agM, h3, if_false]; omega
          rw [e]
          subst h5
          clear m1 m2 e
          walk_at "evs"
        · have e : agM x y = 1 := by simp only [agM, h3, if_false]; omega
          rw [e]
          clear m1 m2 e
          walk_at "evs"
  obtain ⟨x, rfl⟩ := k2
  have hr := rng_map b.length
  have h1 : -1000000 ≤ (b.length : Int) := by omega
  have h2 : (b.length : Int) ≤ 1000000 := by omega
  clear ha hb
  unfold f_law_against o_law_against
  walk_at "ev"
  simp only [rng1_i, h1, h2]
  walk_at "ev"
  rw [Int.toNat_natCast, hr, k1]
  walk_at "ev"
  rw [hl, zip_range_map a b agM hl]
  rfl

theorem ag_length (a b : List Int) (h : b.length = a.length) : (ag a b).length = a.length := by simp [ag, h]
theorem ag_marks (a b : List Int) : sightR (ag a b) := by
  intro x hx
  obtain ⟨p, hp, e⟩ := List.mem_map.mp hx
  simp only [agM] at e
  split at e <;> omega
theorem ag_twice (a b : List Int) (h : b.length = a.length) (ha : sightR a) (hb : plainR b) : ag (ag a b) b = a := by
  induction a generalizing b with
  | nil => rfl
  | cons x xs ih =>
    cases b with
    | nil => cases h
    | cons y ys =>
      have hx := ha x (List.mem_cons_self ..)
      have hy := hb y (List.mem_cons_self ..)
      have k := ih ys (by simpa using h) (fun z hz => ha z (List.mem_cons_of_mem _ hz)) (fun z hz => hb z (List.mem_cons_of_mem _ hz))
      simp only [ag, List.zip_cons_cons, List.map_cons] at k ⊢
      rw [k]
      refine congrArg (· :: xs) ?_
      simp only [agM]
      split
      · simp; omega
      · split <;> omega
theorem ag_self (b : List Int) (hb : plainR b) : ag b b = List.replicate b.length 0 := by
  induction b with
  | nil => rfl
  | cons y ys ih =>
    have hy := hb y (List.mem_cons_self ..)
    have k := ih (fun z hz => hb z (List.mem_cons_of_mem _ hz))
    simp only [ag, List.zip_cons_cons, List.map_cons, List.length_cons, List.replicate_succ] at k ⊢
    rw [k]
    refine congrArg (· :: _) ?_
    simp only [agM]
    split <;> omega
theorem ag_seen (a b g : List Int) (h : b.length = a.length) (h2 : g.length = a.length) (ha : plainR a) (hb : plainR b) (hg : plainR g) : seen (ag a g) (ag b g) = ag (seen a b) g := by
  induction a generalizing b g with
  | nil => rfl
  | cons x xs ih =>
    cases b with
    | nil => cases h
    | cons y ys =>
      cases g with
      | nil => cases h2
      | cons z zs =>
        have hx := ha x (List.mem_cons_self ..)
        have hy := hb y (List.mem_cons_self ..)
        have hz := hg z (List.mem_cons_self ..)
        have k := ih ys zs (by simpa using h) (by simpa using h2) (fun z hz => ha z (List.mem_cons_of_mem _ hz)) (fun z hz => hb z (List.mem_cons_of_mem _ hz)) (fun z hz => hg z (List.mem_cons_of_mem _ hz))
        simp only [ag, seen, List.zip_cons_cons, List.map_cons] at k ⊢
        rw [k]
        refine congrArg (· :: _) ?_
        simp only [agM]
        repeat' split
        all_goals omega
theorem seen_sight (a b : List Int) (ha : plainR a) : sightR (seen a b) := seen_marks a b ha
theorem plain_sight {a : List Int} (h : plainR a) : sightR a := fun x hx => by have := h x hx; omega
end Dl
/-! the law's split of a sight -/
namespace Dl
open PySem PySem.Spec PyProof.Rows L2
abbrev ipD (p : Int × Int) : PyData := .tuple [.int p.1, .int p.2]
def spA (s b : List Int) : List Int := (s.zip b).map fun p => if p.1 = 2 then p.2 else p.1
def spB (s b : List Int) : List Int := (s.zip b).map fun p => if p.1 = 2 then 1 - p.2 else p.1
theorem split_spec (s : List Int) (c : Int) (h : s.length ≤ 1000) : ∃ b : List Int, b.length = s.length ∧ plainR b ∧ f_law_split [rowD s, .int c] = .ok (.dat (prD (pairUp (spA s b) (spB s b)))) := by
  obtain ⟨b, b1, b2, b3⟩ := row_spec c s.length 2 (by omega) (by omega) (by omega) (by omega)
  rw [Int.toNat_natCast] at b1
  refine ⟨b, b1, b2, ?_⟩
  obtain ⟨ρ', k1, k2⟩ := oFor_pre (bd := bN 5) (body := oIf (tOf (eOp gEq (eOp gIx (eVar 0) (eVar 5)) (eC (.int 2)))) (oSeq (oFix [2] (oMutS (mMut 3 gAppend (aCons (eOp gIx (eVar 2) (eVar 5)) aNil))))
    (oFix [2] (oMutS (mMut 4 gAppend (aCons (eOp gSub (eC (.int 1)) (eOp gIx (eVar 2) (eVar 5))) aNil))))) (oSeq (oMutS (mMut 3 gAppend (aCons (eOp gIx (eVar 0) (eVar 5)) aNil)))
    (oMutS (mMut 4 gAppend (aCons (eOp gIx (eVar 0) (eVar 5)) aNil))))) (e := fun (i : Nat) => PyData.int (i : Int))
    (fun pre ρ => ∃ x2 x5, (x2 = some (.own (.list (b.map PyData.int))) ∨ x2 = some (.dat (.list (b.map PyData.int)))) ∧ ρ = [some (.dat (rowD s)), some (.dat (.int c)), x2, some (.own (.list ((pre.map fun i => if s.getD i 0 = 2 then b.getD i 0 else s.getD i 0).map PyData.int))), some (.own (.list ((pre.map fun i => if s.getD i 0 = 2 then 1 - b.getD i 0 else s.getD i 0).map PyData.int))), x5])
    (List.range s.length) [some (.dat (rowD s)), some (.dat (.int c)), some (.own (.list (b.map PyData.int))), some (.own (.list [])), some (.own (.list [])), none] ⟨_, _, .inl rfl, rfl⟩ fun pre i post ρ hl2 hp => by
      obtain ⟨x2, x5, hx, rfl⟩ := hp
      have hi : i < s.length := by
        have : i ∈ List.range s.length := by rw [hl2]; simp
        exact List.mem_range.mp this
      have hpl : pre.length ≤ s.length := by
        have := congrArg List.length hl2
        simp at this
        omega
      have h1 := gIx_t (atI_map (xs := s) (k := i) (by omega) (by omega))
      have h2 := gIx_l (atI_map (xs := b) (k := i) (by omega) (by omega))
      have h4 : pre.length + 1 ≤ 16777216 := by omega
      rw [Int.toNat_natCast] at h1 h2
      by_cases h3 : s.getD i 0 = 2
      · refine ⟨_, [some (.dat (rowD s)), some (.dat (.int c)), some (.dat (.list (b.map PyData.int))), some (.own (.list (((pre ++ [i]).map fun i => if s.getD i 0 = 2 then b.getD i 0 else s.getD i 0).map PyData.int))), some (.own (.list (((pre ++ [i]).map fun i => if s.getD i 0 = 2 then 1 - b.getD i 0 else s.getD i 0).map PyData.int))), some (.dat (.int i))], by walk_at "ev"; rfl, .inl ?_, _, _, .inr rfl, rfl⟩
        clear hl2 h hi hpl b1 b2 b3
        simp only [List.map_append, List.map_cons, List.map_nil, h3, if_true] at h1 ⊢
        refine ifN_t (by walk_at "evs") ?_
        rcases hx with rfl | rfl
        · walk_at "st"
          refine fixN ?_
          walk_at "evs"
        · walk_at "st"
          refine fixN ?_
          walk_at "evs"
      · refine ⟨_, [some (.dat (rowD s)), some (.dat (.int c)), x2, some (.own (.list (((pre ++ [i]).map fun i => if s.getD i 0 = 2 then b.getD i 0 else s.getD i 0).map PyData.int))), some (.own (.list (((pre ++ [i]).map fun i => if s.getD i 0 = 2 then 1 - b.getD i 0 else s.getD i 0).map PyData.int))), some (.dat (.int i))], by walk_at "ev"; rfl, .inl ?_, _, _, hx, rfl⟩
        clear hl2 h hi hpl b1 b2 b3
        simp only [List.map_append, List.map_cons, List.map_nil, h3, if_false] at h1 ⊢
        refine ifN_f (by walk_at "evs") ?_
        clear hx
        walk_at "st"
        walk_at "evs"
  obtain ⟨x2, x5, hx, rfl⟩ := k2
  have hr := rng_map s.length
  have h1 : -1000000 ≤ (s.length : Int) := by omega
  have h2 : (s.length : Int) ≤ 1000000 := by omega
  have g := pair_up_spec (spA s b) (spB s b)
  unfold f_law_split o_law_split
  refine fnO_rt rfl ?_
  walk_at "st"
  walk_at "st"
  walk_at "st"
  refine seqN (forN (ds := (List.range s.length).map fun (i : Nat) => PyData.int (i : Int)) (by walk_at "evs"; rw [Int.toNat_natCast, hr]) k1) ?_
  rw [zip_range_map s b (fun x y => if x = 2 then y else x) b1, zip_range_map s b (fun x y => if x = 2 then 1 - y else x) b1]
  refine fixN ?_
  unfold spA spB at g ⊢
  clear k1 b3 hx
  walk_at "evs"
theorem spA_length (s b : List Int) (h : b.length = s.length) : (spA s b).length = s.length := by simp [spA, h]
theorem spB_length (s b : List Int) (h : b.length = s.length) : (spB s b).length = s.length := by simp [spB, h]
end Dl
/-! k05 -/
namespace Dl
open PySem PySem.Spec PyProof.Rows L2
def ways (x : Int) : List Int := if x = 2 then [0, 1] else [x]
def showsL (x y : Int) : List (Int × Int) := if x = 2 ∧ y = 2 then [] else (ways x).flatMap fun a => (ways y).map fun b => (a, b)
theorem ways_spec (x : Int) : f_ways_of_mark [.int x] = .ok (.own (.list ((ways x).map PyData.int))) := by
  unfold f_ways_of_mark o_ways_of_mark
  by_cases h : x = 2
  · subst h
    walk_at "ev"
    rfl
  · walk_at "evs"
    simp only [ways, h, if_false]
    rfl
theorem gIn_ii (a b c : Int) : gIn (.int a) (.tuple [.int b, .int c]) = retB (decide (b = a) || decide (c = a)) := by
  have e (b : Int) : PyData.eqv (.int b) (.int a) = decide (b = a) := by simp only [PyData.eqv]; rfl
  unfold gIn gInB
  simp only [flatD, List.all_cons, List.all_nil, Bool.and_self, and_self, if_true, List.any_cons, List.any_nil, e, Bool.or_false, bindN_ok]
theorem three_of {x : Int} (h : 0 ≤ x ∧ x ≤ 2) : x = 0 ∨ x = 1 ∨ x = 2 := by omega
theorem shows_spec (s : List Int) (i j x y : Int) (hx : gIx (rowD s) (.int i) = .ok (.dat (.int x))) (hy : gIx (rowD s) (.int j) = .ok (.dat (.int y))) (mx : 0 ≤ x ∧ x ≤ 2) (my : 0 ≤ y ∧ y ≤ 2) :
    f_shows [rowD s, .int i, .int j] = .ok (.own (.list ((showsL x y).map ipD))) := by
  unfold f_shows o_shows
  refine fnO_rt rfl ?_
  have w1 := ways_spec x
  have w2 := ways_spec y
  rcases three_of mx with rfl | rfl | rfl <;> rcases three_of my with rfl | rfl | rfl <;> clear mx my <;> (try simp only [ways, show (0 : Int) ≠ 2 from by decide, show (1 : Int) ≠ 2 from by decide, if_true, if_false, List.map_cons, List.map_nil] at w1 w2) <;> walk_at "evs" <;> rfl
theorem due_spec (s : List Int) (i j x y : Int) (hx : gIx (rowD s) (.int i) = .ok (.dat (.int x))) (hy : gIx (rowD s) (.int j) = .ok (.dat (.int y))) (mx : 0 ≤ x ∧ x ≤ 2) (my : 0 ≤ y ∧ y ≤ 2) :
    f_law_due [rowD s, .int i, .int j] = .ok (.own (.list ((showsL x y).map ipD))) := by
  unfold f_law_due o_law_due
  refine fnO_rt rfl ?_
  have z0 (a b : PyData) : gIx (.tuple [a, b]) (.int 0) = .ok (.dat a) := gIx_t rfl
  have z1 (a b : PyData) : gIx (.tuple [a, b]) (.int 1) = .ok (.dat b) := gIx_t rfl
  have z2 := gIn_ii
  rcases three_of mx with rfl | rfl | rfl <;> rcases three_of my with rfl | rfl | rfl <;> clear mx my <;> walk_at "evs" <;> rfl
theorem gNe_ip {p q : Int × Int} : gNe (ipD p) (ipD q) = retB (!decide (p = q)) := gNe_dn (dn_row [p.1, p.2]) (dn_row [q.1, q.2]) (by decide) (by decide) (by
  obtain ⟨a, b⟩ := p
  obtain ⟨c, d⟩ := q
  simp [ipD])
theorem dn_ip (p : Int × Int) : dn 1 (ipD p) = true := dn_row [p.1, p.2]
theorem ip_inj (p q : Int × Int) (h : ipD p = ipD q) : p = q := by
  obtain ⟨a, b⟩ := p
  obtain ⟨c, d⟩ := q
  simpa [ipD] using h
theorem gNe_ips {p q : List (Int × Int)} : gNe (.list (p.map ipD)) (.list (q.map ipD)) = retB (!decide (p = q)) := gNe_dn (n := 2) (m := 2) (dn_lst dn_ip p) (dn_lst dn_ip q) (by decide) (by decide) (by rw [PyData.list.injEq, map_inj ip_inj])
theorem sp_getD (s b : List Int) (h : b.length = s.length) (f : Int → Int → Int) (i : Nat) (hi : i < s.length) : ((s.zip b).map fun p => f p.1 p.2).getD i 0 = f (s.getD i 0) (b.getD i 0) := by
  have hz : i < ((s.zip b).map fun p => f p.1 p.2).length := by simp; omega
  rw [List.getD_eq_getElem?_getD, List.getElem?_eq_getElem hz, List.getD_eq_getElem?_getD, List.getElem?_eq_getElem hi, List.getD_eq_getElem?_getD, List.getElem?_eq_getElem (show i < b.length by omega)]
  simp
/-- what is shown is borne by one of the two -/
theorem shown_borne (x y u v : Int) (hu : 0 ≤ u ∧ u < 2) (hv : 0 ≤ v ∧ v < 2) (p : Int × Int) (hp : p ∈ showsL x y) :
    p = (if x = 2 then u else x, if y = 2 then v else y) ∨ p = (if x = 2 then 1 - u else x, if y = 2 then 1 - v else y) := by
  unfold showsL ways at hp
  have hu2 : u = 0 ∨ u = 1 := by omega
  have hv2 : v = 0 ∨ v = 1 := by omega
  by_cases hx : x = 2 <;> by_cases hy : y = 2 <;> simp [hx, hy] at hp ⊢
  · rcases hu2 with rfl | rfl <;> rcases hp with rfl | rfl <;> simp
  · rcases hv2 with rfl | rfl <;> rcases hp with rfl | rfl <;> simp
  · exact hp
theorem shown_marks (x y : Int) (mx : 0 ≤ x ∧ x ≤ 2) (my : 0 ≤ y ∧ y ≤ 2) (p : Int × Int) (hp : p ∈ showsL x y) : ∀ z ∈ [p.1, p.2], 0 ≤ z ∧ z ≤ 1 := by
  rcases three_of mx with rfl | rfl | rfl <;> rcases three_of my with rfl | rfl | rfl <;> simp [showsL, ways] at hp <;> (try (rcases hp with rfl | rfl)) <;> (try subst hp) <;> simp

end Dl
/-! bars among rows -/
namespace Dl
open PySem PySem.Spec PyProof.Rows L2
theorem oFor_find {α : Type} {bd : PyData → Env → M Env} {body : Env → O} {e : α → PyData} (P : Env → Prop) (p : α → Bool) (out : α → Sl) : ∀ (ls : List α) (ρ : Env), P ρ →
    (∀ a ∈ ls, ∀ ρ, P ρ → ∃ ρ1, bd (e a) ρ = .ok ρ1 ∧ (p a = false → ∃ ρ2, (body ρ1 = .nx ρ2 ∨ body ρ1 = .ct ρ2) ∧ P ρ2) ∧ (p a = true → body ρ1 = .rt (out a))) →
    (∃ a, ls.find? p = some a ∧ oFor bd body (ls.map e) ρ = .rt (out a)) ∨ (ls.find? p = none ∧ ∃ ρ', oFor bd body (ls.map e) ρ = .nx ρ' ∧ P ρ')
  | [], ρ, h, _ => .inr ⟨rfl, ρ, rfl, h⟩
  | a :: ls, ρ, h, st => by
    obtain ⟨ρ1, h1, h2, h3⟩ := st a (List.mem_cons_self ..) ρ h
    rw [List.map_cons]
    cases hp : p a with
    | true =>
      refine .inl ⟨a, List.find?_cons_of_pos hp, ?_⟩
      unfold oFor
      rw [h1, oOf_ok, h3 hp]
    | false =>
      obtain ⟨ρ2, h4, h5⟩ := h2 hp
      have ih := oFor_find P p out ls ρ2 h5 fun b hb => st b (List.mem_cons_of_mem _ hb)
      rw [List.find?_cons_of_neg (by simp [hp])]
      have e1 : oFor bd body (e a :: ls.map e) ρ = oFor bd body (ls.map e) ρ2 := by
        conv => lhs; unfold oFor
        rw [h1, oOf_ok]
        rcases h4 with h4 | h4 <;> rw [h4]
      rw [e1]
      exact ih
/-! pairs of marks -/
abbrev npD (p : Nat × Nat) : PyData := .tuple [.int (p.1 : Int), .int (p.2 : Int)]
abbrev nD (i : Nat) : PyData := .int (i : Int)
def pairsL (n : Nat) : List (Nat × Nat) := (List.range n).flatMap fun k => ((List.range n).drop (k + 1)).map fun j => (k, j)
theorem mem_pairsL {n : Nat} {p : Nat × Nat} (h : p ∈ pairsL n) : p.1 < p.2 ∧ p.2 < n := by
  obtain ⟨k, hk, h⟩ := List.mem_flatMap.mp h
  obtain ⟨j, hj, rfl⟩ := List.mem_map.mp h
  obtain ⟨i, hi, e⟩ := List.mem_drop_iff_getElem.mp hj
  simp at e hi
  constructor
  · show k < j
    omega
  · show j < n
    omega
theorem enumD_range (n : Nat) : enumD ((List.range n).map nD) = (List.range n).map fun i => npD (i, i) := by
  unfold enumD
  refine List.ext_getElem (by simp) fun i h1 h2 => ?_
  simp
theorem pairs_spec (n : Nat) (hn : n ≤ 1000) : f_pairs_of [.list ((List.range n).map nD)] = .ok (.own (.list ((pairsL n).map npD))) := by
  obtain ⟨ρ', k1, acc, x2, x3, x4, h1, h2, rfl⟩ := oFor_pre (bd := bTup 2 (bCons (bN 2) (bCons (bN 3) bNil))) (body := oForE (iOf (eSl (eVar 0) (sSome (eOp gAdd (eVar 2) (eC (.int 1)))) sNone)) (bN 4) (oMutS (mMut 1 gAppend (aCons (eTup (aCons (eVar 3) (aCons (eVar 4) aNil))) aNil)))) (e := fun i => npD (i, i))
    (fun pre ρ => ∃ (acc : List (Nat × Nat)) (x2 x3 x4 : Option Sl), acc = pre.flatMap (fun k => ((List.range n).drop (k + 1)).map fun j => (k, j)) ∧ acc.length ≤ pre.length * 1000 ∧ ρ = [some (.dat (.list ((List.range n).map nD))), some (.own (.list (acc.map npD))), x2, x3, x4]) (List.range n)
    [some (.dat (.list ((List.range n).map nD))), some (.own (.list [])), none, none, none] ⟨[], _, _, _, rfl, by simp, rfl⟩ fun pre k post ρ hl hp => by
      obtain ⟨acc, x2, x3, x4, h1, h2, rfl⟩ := hp
      have hk : k < n := List.mem_range.mp (by rw [hl]; simp)
      have hpl : pre.length + 1 ≤ n := by
        have := congrArg List.length hl
        simp at this
        omega
      have hdl : ((List.range n).drop (k + 1)).length ≤ n := by simp
      obtain ⟨ρ', k1, x4', rfl⟩ := oFor_pre (bd := bN 4) (body := oMutS (mMut 1 gAppend (aCons (eTup (aCons (eVar 3) (aCons (eVar 4) aNil))) aNil))) (e := nD)
        (fun pre' ρ => ∃ x4, ρ = [some (.dat (.list ((List.range n).map nD))), some (.own (.list ((acc ++ pre'.map fun j => (k, j)).map npD))), some (.dat (nD k)), some (.dat (nD k)), x4]) ((List.range n).drop (k + 1))
        [some (.dat (.list ((List.range n).map nD))), some (.own (.list (acc.map npD))), some (.dat (nD k)), some (.dat (nD k)), x4] ⟨x4, by simp⟩ fun pre' j post' ρ hl' hp' => by
          obtain ⟨x4, rfl⟩ := hp'
          have hb : ((acc ++ pre'.map fun j => (k, j)).map npD).length + 1 ≤ 16777216 := by
            have h3 := congrArg List.length hl'
            rw [List.length_append, List.length_cons] at h3
            simp only [List.length_map, List.length_append]
            have : pre.length * 1000 ≤ 1000 * 1000 := Nat.mul_le_mul_right _ (by omega)
            omega
          refine ⟨_, [some (.dat (.list ((List.range n).map nD))), some (.own (.list ((acc ++ (pre' ++ [j]).map fun j => (k, j)).map npD))), some (.dat (nD k)), some (.dat (nD k)), some (.dat (nD j))], rfl, .inl ?_, some (.dat (nD j)), rfl⟩
          rw [List.map_append (f := fun j => (k, j)), ← List.append_assoc]
          generalize (acc ++ pre'.map fun j => (k, j)) = A at hb
          rw [List.length_map] at hb
          clear hl hl' h1 h2 hk hpl hdl hn
          walk_at "evs"
          simp only [List.map_append, List.map_cons, List.map_nil]
      refine ⟨_, [some (.dat (.list ((List.range n).map nD))), some (.own (.list ((acc ++ ((List.range n).drop (k + 1)).map fun j => (k, j)).map npD))), some (.dat (nD k)), some (.dat (nD k)), x4'], by walk_at "ev"; rfl, .inl ?_, acc ++ ((List.range n).drop (k + 1)).map (fun j => (k, j)), some (.dat (nD k)), some (.dat (nD k)), x4', by rw [h1, List.flatMap_append]; simp, ?_, rfl⟩
      · refine forN ?_ k1
        have s2 := cut_from (l := (List.range n).map nD) (i := (k : Int) + 1) (by omega) (by simp; omega)
        rw [show ((k : Int) + 1).toNat = k + 1 by omega] at s2
        clear k1 hl h1 h2 hpl hdl
        walk_at "evs"
        rw [List.map_drop]
      · rw [List.length_append, List.length_map, List.length_append, List.length_singleton]
        omega
  have h3 := enumD_range n
  unfold f_pairs_of o_pairs_of
  refine fnO_rt rfl ?_
  refine seqN (by walk_at "ev"; rfl) ?_
  refine seqN (forN (by walk_at "evs") k1) ?_
  rw [h1]
  walk_at "ev"
  rfl

/-! who shows what -/
abbrev tD (r : List Int) : PyData := .tuple [.str "", rowD r]
def kk (x y : Int) : List Key := [.inl x, .inl y]
abbrev dE (es : List (PyData × PyData)) : PyData := .dict ((.bool true, .none) :: es)
theorem gNotInT_ip (p : Int × Int) (es : List (PyData × PyData)) : gNotInT (ipD p) (dE es) = retB (!es.any (isK (kk p.1 p.2))) := rfl
theorem gInT_fz (p : Int × Int) (es : List (PyData × PyData)) : gInT (fz [.int p.1, .int p.2]) (dE es) = retB (es.any (isK (kk p.1 p.2))) := rfl
theorem kk_inj {a b x y : Int} : kk a b = kk x y ↔ a = x ∧ b = y := by
  unfold kk
  simp
def bears (r : List Int) (i j : Nat) (x y : Int) : Bool := decide (r.getD i 0 = x) && decide (r.getD j 0 = y)
theorem shown_spec (rows : List (List Int)) (n i j : Nat) (hi : i < n) (hj : j < n) (hr : ∀ r ∈ rows, r.length = n ∧ plainR r) (hl : rows.length ≤ 100000) :
    ∃ es, f_shown_by [.list (rows.map tD), .int (i : Int), .int (j : Int)] = .ok (.own (dE es)) ∧ ∀ x y, es.any (isK (kk x y)) = rows.any fun r => bears r i j x y := by
  obtain ⟨ρ', k1, es, x4, x5, x6, h1, h2, rfl⟩ := oFor_pre (bd := bTup 2 (bCons (bN 4) (bCons (bN 5) bNil))) (body := oForE (iOf (eCall f_shows (aCons (eVar 5) (aCons (eVar 1) (aCons (eVar 2) aNil))))) (bN 6) (oIf (tPub (tOf (eOp gNotInT (eVar 6) (eVar 3)))) (oPutT 3 (eVar 4) (eVar 6)) oNx)) (e := tD)
    (fun pre ρ => ∃ (es : List (PyData × PyData)) (x4 x5 x6 : Option Sl), es.length ≤ pre.length ∧ (∀ x y, es.any (isK (kk x y)) = pre.any fun r => bears r i j x y) ∧ ρ = [some (.dat (.list (rows.map tD))), some (.dat (.int (i : Int))), some (.dat (.int (j : Int))), some (.own (dE es)), x4, x5, x6]) rows
    [some (.dat (.list (rows.map tD))), some (.dat (.int (i : Int))), some (.dat (.int (j : Int))), some (.own dT0), none, none, none] ⟨[], _, _, _, by simp, fun x y => rfl, rfl⟩ fun pre r post ρ hl2 hp => by
      obtain ⟨es, x4, x5, x6, h1, h2, rfl⟩ := hp
      obtain ⟨hrl, hrp⟩ := hr r (by rw [hl2]; simp)
      have hpl : pre.length + 1 ≤ rows.length := by rw [hl2]; simp
      have gi := gIx_t (atI_map (xs := r) (k := i) (by omega) (by omega))
      have gj := gIx_t (atI_map (xs := r) (k := j) (by omega) (by omega))
      rw [Int.toNat_natCast] at gi gj
      have mi := getDP r hrp i (by omega)
      have mj := getDP r hrp j (by omega)
      have sh := shows_spec r i j _ _ gi gj (by omega) (by omega)
      have e1 : showsL (r.getD i 0) (r.getD j 0) = [(r.getD i 0, r.getD j 0)] := by
        unfold showsL ways
        rw [if_neg (by omega), if_neg (by omega), if_neg (by omega)]
        rfl
      rw [e1] at sh
      have hbr : ∀ x y, (pre ++ [r]).any (fun r => bears r i j x y) = (pre.any (fun r => bears r i j x y) || bears r i j x y) := fun x y => by simp
      generalize hx : r.getD i 0 = x at gi mi sh e1
      generalize hy : r.getD j 0 = y at gj mj sh e1
      have hni := gNotInT_ip (x, y) es
      have hrb : ∀ a b, bears r i j a b = (decide (x = a) && decide (y = b)) := fun a b => by
        show (decide (r.getD i 0 = a) && decide (r.getD j 0 = b)) = _
        rw [hx, hy]
      cases hp : es.any (isK (kk x y)) with
      | true =>
        refine ⟨_, [some (.dat (.list (rows.map tD))), some (.dat (.int (i : Int))), some (.dat (.int (j : Int))), some (.own (dE es)), some (.dat (.str "")), some (.dat (rowD r)), some (.dat (ipD (x, y)))], by walk_at "ev"; rfl, .inl ?_, es, some (.dat (.str "")), some (.dat (rowD r)), some (.dat (ipD (x, y))), by simp; omega, ?_, rfl⟩
        · simp only [hp, Bool.not_true] at hni
          clear hl2 hl hr h1 h2 hrl hrp hpl gi gj mi mj e1 hbr hx hy hrb hp
          refine forN (by walk_at "evs"; rfl) ?_
          walk_at "evs"
        · intro a b
          rw [hbr, hrb, h2]
          by_cases e : x = a ∧ y = b
          · obtain ⟨rfl, rfl⟩ := e
            rw [← h2, hp]
            rfl
          · have : (decide (x = a) && decide (y = b)) = false := by
              rw [Bool.and_eq_false_iff, decide_eq_false_iff_not, decide_eq_false_iff_not]
              exact Decidable.not_and_iff_or_not.mp e
            rw [this, Bool.or_false]
      | false =>
        have hput : putE es (kk x y) (.str "") = es ++ [(ipD (x, y), .str "")] := by
          unfold putE
          rw [hp, if_neg (by decide)]
          rfl
        have hk : keysOf (ipD (x, y)) = some (kk x y) := rfl
        have hbg : es.length + 1 ≤ 16777216 := by omega
        refine ⟨_, [some (.dat (.list (rows.map tD))), some (.dat (.int (i : Int))), some (.dat (.int (j : Int))), some (.own (dE (es ++ [(ipD (x, y), .str "")]))), some (.dat (.str "")), some (.dat (rowD r)), some (.dat (ipD (x, y)))], by walk_at "ev"; rfl, .inl ?_, es ++ [(ipD (x, y), .str "")], some (.dat (.str "")), some (.dat (rowD r)), some (.dat (ipD (x, y))), by simp; omega, ?_, rfl⟩
        · simp only [hp, Bool.not_false] at hni
          clear hl2 hl hr h1 h2 hrl hrp hpl gi gj mi mj e1 hbr hx hy hrb hp
          refine forN (by walk_at "evs"; rfl) ?_
          walk_at "evs"
          simp only [oPutT]
          walk_at "evs"
        · intro a b
          rw [hbr, hrb, ← h2, List.any_append]
          have : isK (kk a b) (ipD (x, y), .str "") = (decide (x = a) && decide (y = b)) := by
            have := isK_ent (kk x y) (kk a b) (.str "")
            rw [show ((PyData.tuple ((kk x y).map keyD), PyData.str "")) = (ipD (x, y), PyData.str "") from rfl] at this
            rw [this, ← Bool.decide_and]
            exact decide_eq_decide.mpr kk_inj
          rw [List.any_cons, this, List.any_nil, Bool.or_false]
  refine ⟨es, ?_, h2⟩
  unfold f_shown_by o_shown_by
  refine fnO_rt rfl ?_
  refine seqN (by simp only [oSet, eNewT]; walk_at "ev"; rfl) ?_
  refine seqN (forN (by walk_at "ev") k1) ?_
  walk_at "ev"

/-! the three -/
def bar3 (rows : List (List Int)) (i j : Nat) : Bool := (rows.any fun r => bears r i j 0 1) && ((rows.any fun r => bears r i j 1 0) && rows.any fun r => bears r i j 1 1)
theorem has_all_spec (es : List (PyData × PyData)) : f_has_all [dE es] = .ok (.dat (.bool (es.any (isK (kk 0 1)) && (es.any (isK (kk 1 0)) && es.any (isK (kk 1 1)))))) := by
  have f := lcF_map (bd := bN 1) (fe := eOp gInT (eVar 1) (eVar 0)) (ρ := [some (.dat (dE es)), none]) (e := fun p : Int × Int => fz [.int p.1, .int p.2]) (fun p => .bool (es.any (isK (kk p.1 p.2)))) [(0, 1), (1, 0), (1, 1)] fun p _ => by
    have h := gInT_fz p es
    exact ⟨_, rfl, .dat (.bool (es.any (isK (kk p.1 p.2)))), by walk_at "evs", rfl⟩
  simp only [List.map_cons, List.map_nil] at f
  have g : ∀ a b c : Bool, gAllAny (fun bs => bs.all id) [.list [.bool a, .bool b, .bool c]] = retB (a && (b && c)) := by
    intro a b c
    cases a <;> cases b <;> cases c <;> rfl
  unfold f_has_all o_has_all
  walk_at "evs"
theorem barred_spec (rows : List (List Int)) (g : List Int) (hg : plainR g) (hn : g.length ≤ 1000) (hr : ∀ r ∈ rows, r.length = g.length ∧ plainR r) (hl : rows.length ≤ 100000) :
    f_barred_at [.list (rows.map rowD), rowD g] = .ok (.dat (match (pairsL g.length).find? (fun p => bar3 (rows.map fun r => ag r g) p.1 p.2) with | some p => npD p | none => .none)) := by
  have f := lcF_map (bd := bN 5) (fe := eTup (aCons (eC (.str "")) (aCons (eCall f_against (aCons (eVar 5) (aCons (eVar 1) aNil))) aNil))) (ρ := [some (.dat (.list (rows.map rowD))), some (.dat (rowD g)), none, none, none, none]) (e := rowD) (fun r => tD (ag r g)) rows fun r hr' => by
    have h := against_spec r g (by have := (hr r hr').1; omega)
    refine ⟨_, rfl, .dat (tD (ag r g)), ?_, rfl⟩
    clear hr hr'
    walk_at "evs"
  have hb : rows.length ≤ 16777216 := by omega
  have e : rows.map (fun r => tD (ag r g)) = (rows.map fun r => ag r g).map tD := by rw [List.map_map]; rfl
  rw [e] at f
  have hr2 : ∀ r ∈ (rows.map fun r => ag r g), r.length = g.length ∧ plainR r := by
    intro r h
    obtain ⟨z, hz, rfl⟩ := List.mem_map.mp h
    obtain ⟨z1, z2⟩ := hr z hz
    refine ⟨by rw [ag_length z g (by omega)]; exact z1, ?_⟩
    intro x hx
    obtain ⟨p, hp, e⟩ := List.mem_map.mp hx
    have := z2 p.1 (List.of_mem_zip hp).1
    simp only [agM] at e
    split at e <;> omega
  generalize hT : (rows.map fun r => ag r g) = T at f hr2
  have hTl : T.length ≤ 100000 := by rw [← hT, List.length_map]; exact hl
  have hps := pairs_spec g.length hn
  have hfind := oFor_find (bd := bTup 2 (bCons (bN 3) (bCons (bN 4) bNil))) (body := oFix [2] (oIf (tOf (eCall f_has_all (aCons (eCall f_shown_by (aCons (eVar 2) (aCons (eVar 3) (aCons (eVar 4) aNil)))) aNil))) (oRet (eTup (aCons (eVar 3) (aCons (eVar 4) aNil)))) oNx)) (e := npD)
    (fun ρ => ∃ x2 x3 x4, (x2 = some (.own (.list (T.map tD))) ∨ x2 = some (.dat (.list (T.map tD)))) ∧ ρ = [some (.dat (.list (rows.map rowD))), some (.dat (rowD g)), x2, x3, x4, none]) (fun p => bar3 T p.1 p.2) (fun p => .dat (npD p)) (pairsL g.length)
    [some (.dat (.list (rows.map rowD))), some (.dat (rowD g)), some (.own (.list (T.map tD))), none, none, none] ⟨_, _, _, .inl rfl, rfl⟩ (by
      rintro p hp ρ ⟨x2, x3, x4, hx, rfl⟩
      obtain ⟨m1, m2⟩ := mem_pairsL hp
      obtain ⟨es, s1, s2⟩ := shown_spec T g.length p.1 p.2 (by omega) m2 hr2 hTl
      have h3 := has_all_spec es
      rw [s2, s2, s2] at h3
      replace h3 : f_has_all [dE es] = .ok (.dat (.bool (bar3 T p.1 p.2))) := h3
      refine ⟨[some (.dat (.list (rows.map rowD))), some (.dat (rowD g)), x2, some (.dat (nD p.1)), some (.dat (nD p.2)), none], by walk_at "ev", ?_, ?_⟩
      · intro hp0
        have hp0 : bar3 T p.1 p.2 = false := hp0
        rw [hp0] at h3
        refine ⟨[some (.dat (.list (rows.map rowD))), some (.dat (rowD g)), some (.dat (.list (T.map tD))), some (.dat (nD p.1)), some (.dat (nD p.2)), none], .inl ?_, _, _, _, .inr rfl, rfl⟩
        clear hr hr2 f hps s2 hp0 hT
        rcases hx with rfl | rfl
        · exact fixN (ifN_f (by walk_at "evs") rfl)
        · exact fixN (ifN_f (by walk_at "evs") rfl)
      · intro hp1
        have hp1 : bar3 T p.1 p.2 = true := hp1
        rw [hp1] at h3
        clear hr hr2 f hps s2 hp1 hT
        rcases hx with rfl | rfl
        · exact fixN (ifN_t (by walk_at "evs") (by walk_at "evs"))
        · exact fixN (ifN_t (by walk_at "evs") (by walk_at "evs")))
  have l1 : (0 : Int) ≤ (g.length : Int) := by omega
  have l2 : (g.length : Int) ≤ 10000 := by omega
  have hrg := rng_map g.length
  have hbT : T.length ≤ 16777216 := by omega
  unfold f_barred_at o_barred_at
  refine fnO_rt rfl ?_
  refine seqN (ρ' := [some (.dat (.list (rows.map rowD))), some (.dat (rowD g)), some (.own (.list (T.map tD))), none, none, none]) ?_ ?_
  · clear hfind hps hr hr2 hT
    walk_at "evs"
  clear f hT hr hr2
  have hit : (iOf (eCall f_pairs_of (aCons (eLstRg1 (eCall gLen (aCons (eVar 1) aNil))) aNil))) [some (.dat (.list (rows.map rowD))), some (.dat (rowD g)), some (.own (.list (T.map tD))), none, none, none] = .ok ((pairsL g.length).map npD) := by
    clear hfind
    simp only [iOf, eCall, aCons, aNil, eLstRg1, eVar, List.getElem?_cons_zero, List.getElem?_cons_succ, bindN_ok, Sl.d_dat, gLen_t, List.length_map, isI, l1, l2, and_self, if_true, Sl.d_own, Int.toNat_natCast, hrg]
    rw [hps]
    rfl
  rcases hfind with ⟨p, h1, h2⟩ | ⟨h1, ρ', h2, h3⟩
  · rw [h1]
    unfold oSeq
    rw [forN hit h2]
  · rw [h1]
    refine seqN (forN hit h2) ?_
    rfl
theorem is_borne_spec (rows : List (List Int)) (g : List Int) (d : PyData) (h : f_barred_at [.list (rows.map rowD), rowD g] = .ok (.dat d)) : f_is_borne [.list (rows.map rowD), rowD g] = .ok (.dat (.bool (isNoneD d))) := by
  unfold f_is_borne o_is_borne
  walk_at "evs"
end Dl
/-! k07 -/
namespace Dl
open PySem PySem.Spec PyProof.Rows L2
theorem ag_mark (r g : List Int) (hl : g.length = r.length) (hr : plainR r) (hg : plainR g) (i : Nat) (hi : i < r.length) : (ag r g).getD i 0 = if r.getD i 0 ≠ g.getD i 0 then 1 else 0 := by
  rw [show (ag r g).getD i 0 = _ from sp_getD r g hl agM i hi]
  have h1 := getDP r hr i hi
  have h2 := getDP g hg i (by omega)
  unfold agM
  rw [if_neg (by omega)]
  split <;> omega
theorem grown_free {g : List Int} {left : List Nat} {L rows : List (List Int)} (G : Grown g left L) (hg : plainR g) (hs : ∀ r ∈ rows, r ∈ L) (i j : Nat) (hij : i < j) (hj : j < g.length) : bar3 (rows.map fun r => ag r g) i j = false := by
  have key : ∀ x y : Int, ((rows.map fun r => ag r g).any fun r => bears r i j x y) = true → (x = 0 ∨ x = 1) → (y = 0 ∨ y = 1) → pat L g i j (decide (x = 1)) (decide (y = 1)) := by
    intro x y h hx hy
    rw [List.any_map, List.any_eq_true] at h
    obtain ⟨r, hr, h⟩ := h
    have hrl := hs r hr
    have h1 := G.len r hrl
    have h2 := G.plain r hrl
    have h3 : (decide ((ag r g).getD i 0 = x) && decide ((ag r g).getD j 0 = y)) = true := h
    rw [ag_mark r g (by omega) h2 hg i (by omega), ag_mark r g (by omega) h2 hg j (by omega), Bool.and_eq_true, decide_eq_true_eq, decide_eq_true_eq] at h3
    refine ⟨r, hrl, ?_, ?_⟩
    · rw [decide_eq_decide]
      have := h3.1
      split at this
      · rename_i q
        exact ⟨fun _ => this.symm, fun _ => q⟩
      · rename_i q
        exact ⟨fun z => absurd z q, fun z => by omega⟩
    · rw [decide_eq_decide]
      have := h3.2
      split at this
      · rename_i q
        exact ⟨fun _ => this.symm, fun _ => q⟩
      · rename_i q
        exact ⟨fun z => absurd z q, fun z => by omega⟩
  cases hb : bar3 (rows.map fun r => ag r g) i j with
  | false => rfl
  | true =>
    unfold bar3 at hb
    rw [Bool.and_eq_true, Bool.and_eq_true] at hb
    refine absurd ⟨?_, ?_, ?_⟩ (G.free i j (by omega))
    · exact key 0 1 hb.1 (by omega) (by omega)
    · exact key 1 0 hb.2.1 (by omega) (by omega)
    · exact key 1 1 hb.2.2 (by omega) (by omega)
theorem grown_barred {g : List Int} {left : List Nat} {L rows : List (List Int)} (G : Grown g left L) (hg : plainR g) (hn : g.length ≤ 1000) (hs : ∀ r ∈ rows, r ∈ L) (hl : rows.length ≤ 100000) : f_barred_at [.list (rows.map rowD), rowD g] = .ok (.dat .none) := by
  rw [barred_spec rows g hg hn (fun r hr => ⟨G.len r (hs r hr), G.plain r (hs r hr)⟩) hl]
  rw [List.find?_eq_none.mpr fun p hp => by
    obtain ⟨h1, h2⟩ := mem_pairsL hp
    rw [grown_free G hg hs p.1 p.2 h1 h2]
    decide]
end Dl
/-! k06 -/
namespace Dl
open PySem PySem.Spec PyProof.Rows L2
theorem oFor_some {α β : Type} {bd : PyData → Env → M Env} {body : Env → O} {e : α → PyData} (P : Env → Prop) (p : α → Option β) (out : β → Sl) : ∀ (ls : List α) (ρ : Env), P ρ →
    (∀ a ∈ ls, ∀ ρ, P ρ → ∃ ρ1, bd (e a) ρ = .ok ρ1 ∧ ((p a = none ∧ ∃ ρ2, (body ρ1 = .nx ρ2 ∨ body ρ1 = .ct ρ2) ∧ P ρ2) ∨ ∃ b, p a = some b ∧ body ρ1 = .rt (out b))) →
    (∃ b, ls.findSome? p = some b ∧ oFor bd body (ls.map e) ρ = .rt (out b)) ∨ (ls.findSome? p = none ∧ ∃ ρ', oFor bd body (ls.map e) ρ = .nx ρ' ∧ P ρ')
  | [], ρ, h, _ => .inr ⟨rfl, ρ, rfl, h⟩
  | a :: ls, ρ, h, st => by
    obtain ⟨ρ1, h1, h2⟩ := st a (List.mem_cons_self ..) ρ h
    rw [List.map_cons]
    rcases h2 with ⟨h2, ρ2, h4, h5⟩ | ⟨b, h2, h3⟩
    · have ih := oFor_some P p out ls ρ2 h5 fun b hb => st b (List.mem_cons_of_mem _ hb)
      rw [List.findSome?_cons_of_isNone (by rw [h2]; rfl)]
      have e1 : oFor bd body (e a :: ls.map e) ρ = oFor bd body (ls.map e) ρ2 := by
        conv => lhs; unfold oFor
        rw [h1, oOf_ok]
        rcases h4 with h4 | h4 <;> rw [h4]
      rw [e1]
      exact ih
    · refine .inl ⟨b, by rw [List.findSome?_cons, h2], ?_⟩
      unfold oFor
      rw [h1, oOf_ok, h3]
theorem rng_drop (n k : Nat) (h : k < n) : rng ((k : Int) + 1) ((n : Int) - ((k : Int) + 1)).toNat = ((List.range n).drop (k + 1)).map nD := by
  unfold rng
  refine List.ext_getElem (by simp; omega) fun i h1 h2 => ?_
  simp
theorem gIn_ip (p : Int × Int) (l : List (Int × Int)) : gIn (ipD p) (.list (l.map ipD)) = retB (decide (p ∈ l)) := by
  have h1 : SeqAt.shaped (ipD p) = true := dn_shaped (dn_ip p) (by decide)
  have h2 : SeqAt.shaped (.list (l.map ipD)) = true := dn_shaped (dn_lst dn_ip l) (by decide)
  have h3 : ((l.map ipD).any fun z => PyData.eqv z (ipD p)) = decide (p ∈ l) := by
    rw [Bool.eq_iff_iff, List.any_eq_true, decide_eq_true_eq]
    constructor
    · rintro ⟨z, hz, h⟩
      obtain ⟨q, hq, rfl⟩ := List.mem_map.mp hz
      rw [← ip_inj _ _ ((dn_eqv 1 1 _ _ (dn_ip q) (dn_ip p)).mp h)]
      exact hq
    · intro h
      exact ⟨ipD p, List.mem_map.mpr ⟨p, h, rfl⟩, (dn_eqv 1 1 _ _ (dn_ip p) (dn_ip p)).mpr rfl⟩
  have h4 : ¬ (flatD (ipD p) = true ∧ (l.map ipD).all flatD = true) := fun z => nomatch z.1
  unfold gIn gInB
  simp only [h1, h2, h3, h4, and_self, if_true, if_false, bindN_ok]
theorem bears_mem (T : List (List Int)) (i j : Nat) (x y : Int) : decide ((x, y) ∈ T.map fun r => (r.getD i 0, r.getD j 0)) = T.any fun r => bears r i j x y := by
  rw [Bool.eq_iff_iff, decide_eq_true_eq, List.any_eq_true, List.mem_map]
  constructor
  · rintro ⟨r, hr, e⟩
    cases e
    exact ⟨r, hr, by simp [bears]⟩
  · rintro ⟨r, hr, e⟩
    refine ⟨r, hr, ?_⟩
    unfold bears at e
    rw [Bool.and_eq_true, decide_eq_true_eq, decide_eq_true_eq] at e
    rw [e.1, e.2]

theorem first_spec (rows : List (List Int)) (g : List Int) (hg : plainR g) (hn : g.length ≤ 1000) (hr : ∀ r ∈ rows, r.length = g.length ∧ plainR r) (hl : rows.length ≤ 100000) :
    f_law_first [.list (rows.map rowD), rowD g] = .ok (.dat (match (pairsL g.length).find? (fun p => bar3 (rows.map fun r => ag r g) p.1 p.2) with | some p => npD p | none => .none)) := by
  have f := lcF_map (bd := bN 5) (fe := eCall f_law_against (aCons (eVar 5) (aCons (eVar 1) aNil))) (ρ := [some (.dat (.list (rows.map rowD))), some (.dat (rowD g)), none, none, none, none, none]) (e := rowD) (fun r => rowD (ag r g)) rows fun r hr' => by
    have h := law_against_spec r g (by have := (hr r hr').1; omega) (by have := (hr r hr').1; omega) (plain_sight (hr r hr').2) hg
    refine ⟨_, rfl, .dat (rowD (ag r g)), ?_, rfl⟩
    clear hr hr'
    walk_at "evs"
  have hb : rows.length ≤ 16777216 := by omega
  have e : rows.map (fun r => rowD (ag r g)) = (rows.map fun r => ag r g).map rowD := by rw [List.map_map]; rfl
  rw [e] at f
  have hr2 : ∀ r ∈ (rows.map fun r => ag r g), r.length = g.length := by
    intro r h
    obtain ⟨z, hz, rfl⟩ := List.mem_map.mp h
    rw [ag_length z g (by have := (hr z hz).1; omega)]
    exact (hr z hz).1
  generalize hT : (rows.map fun r => ag r g) = T at f hr2
  have hTl : T.length ≤ 100000 := by rw [← hT, List.length_map]; exact hl
  have hTb : T.length ≤ 16777216 := by omega
  clear hT hr e
  generalize hn0 : g.length = n at hn hr2
  have hfind := oFor_some (bd := bN 3) (body := oForE (iAr (aCons (eOp gAdd (eVar 3) (eC (.int 1))) (aCons (eCall gLen (aCons (eVar 1) aNil)) aNil)) rng2Of) (bN 4) (oSeq (oFix [2] (oSet 6 (eLc (iOf (eVar 2)) [5] (bN 5) (fun _ => .ok true) (eTup (aCons (eOp gIx (eVar 5) (eVar 3)) (aCons (eOp gIx (eVar 5) (eVar 4)) aNil))))))
    (oFix [6] (oIf (tAndF (tOf (eOp gIn (eTup (aCons (eC (.int 0)) (aCons (eC (.int 1)) aNil))) (eVar 6))) (tAndF (tOf (eOp gIn (eTup (aCons (eC (.int 1)) (aCons (eC (.int 0)) aNil))) (eVar 6))) (tOf (eOp gIn (eTup (aCons (eC (.int 1)) (aCons (eC (.int 1)) aNil))) (eVar 6))))) (oRet (eTup (aCons (eVar 3) (aCons (eVar 4) aNil)))) oNx)))) (e := nD)
    (fun ρ => ∃ x2 x3 x4 x6, (x2 = some (.own (.list (T.map rowD))) ∨ x2 = some (.dat (.list (T.map rowD)))) ∧ ρ = [some (.dat (.list (rows.map rowD))), some (.dat (rowD g)), x2, x3, x4, none, x6])
    (fun k => (((List.range n).drop (k + 1)).map fun j => (k, j)).find? fun p => bar3 T p.1 p.2) (fun p : Nat × Nat => .dat (npD p)) (List.range n)
    [some (.dat (.list (rows.map rowD))), some (.dat (rowD g)), some (.own (.list (T.map rowD))), none, none, none, none] ⟨_, _, _, _, .inl rfl, rfl⟩ (by
      rintro k hk ρ ⟨x2, x3, x4, x6, hx, rfl⟩
      have hk : k < n := List.mem_range.mp hk
      refine ⟨[some (.dat (.list (rows.map rowD))), some (.dat (rowD g)), x2, some (.dat (nD k)), x4, none, x6], rfl, ?_⟩
      have inner := oFor_find (bd := bN 4) (body := (oSeq (oFix [2] (oSet 6 (eLc (iOf (eVar 2)) [5] (bN 5) (fun _ => .ok true) (eTup (aCons (eOp gIx (eVar 5) (eVar 3)) (aCons (eOp gIx (eVar 5) (eVar 4)) aNil))))))
        (oFix [6] (oIf (tAndF (tOf (eOp gIn (eTup (aCons (eC (.int 0)) (aCons (eC (.int 1)) aNil))) (eVar 6))) (tAndF (tOf (eOp gIn (eTup (aCons (eC (.int 1)) (aCons (eC (.int 0)) aNil))) (eVar 6))) (tOf (eOp gIn (eTup (aCons (eC (.int 1)) (aCons (eC (.int 1)) aNil))) (eVar 6))))) (oRet (eTup (aCons (eVar 3) (aCons (eVar 4) aNil)))) oNx)))) (e := nD)
        (fun ρ => ∃ x2 x4 x6, (x2 = some (.own (.list (T.map rowD))) ∨ x2 = some (.dat (.list (T.map rowD)))) ∧ ρ = [some (.dat (.list (rows.map rowD))), some (.dat (rowD g)), x2, some (.dat (nD k)), x4, none, x6])
        (fun j => bar3 T k j) (fun j => .dat (npD (k, j))) ((List.range n).drop (k + 1))
        [some (.dat (.list (rows.map rowD))), some (.dat (rowD g)), x2, some (.dat (nD k)), x4, none, x6] ⟨_, _, _, hx, rfl⟩ (by
          rintro j hj ρ ⟨x2, x4, x6, hx, rfl⟩
          have hj : j < n := List.mem_range.mp (List.mem_of_mem_drop hj)
          refine ⟨[some (.dat (.list (rows.map rowD))), some (.dat (rowD g)), x2, some (.dat (nD k)), some (.dat (nD j)), none, x6], rfl, ?_⟩
          have f2 := lcF_map (bd := bN 5) (fe := eTup (aCons (eOp gIx (eVar 5) (eVar 3)) (aCons (eOp gIx (eVar 5) (eVar 4)) aNil))) (ρ := [some (.dat (.list (rows.map rowD))), some (.dat (rowD g)), some (.dat (.list (T.map rowD))), some (.dat (nD k)), some (.dat (nD j)), none, x6]) (e := rowD) (fun r => ipD (r.getD k 0, r.getD j 0)) T fun r hr' => by
            have h0 := hr2 r hr'
            have gi := gIx_t (atI_map (xs := r) (k := k) (by omega) (by omega))
            have gj := gIx_t (atI_map (xs := r) (k := j) (by omega) (by omega))
            rw [Int.toNat_natCast] at gi gj
            refine ⟨_, rfl, .dat (ipD (r.getD k 0, r.getD j 0)), ?_, rfl⟩
            clear hr2 hr' f h0
            walk_at "evs"
          rw [show T.map (fun r => ipD (r.getD k 0, r.getD j 0)) = (T.map fun r => (r.getD k 0, r.getD j 0)).map ipD by rw [List.map_map]; rfl] at f2
          have a1 := gIn_ip (0, 1) (T.map fun r => (r.getD k 0, r.getD j 0))
          have a2 := gIn_ip (1, 0) (T.map fun r => (r.getD k 0, r.getD j 0))
          have a3 := gIn_ip (1, 1) (T.map fun r => (r.getD k 0, r.getD j 0))
          rw [bears_mem] at a1 a2 a3
          have hbar : bar3 T k j = ((T.any fun r => bears r k j 0 1) && ((T.any fun r => bears r k j 1 0) && T.any fun r => bears r k j 1 1)) := rfl
          have hML : (T.map fun r => (r.getD k 0, r.getD j 0)).length ≤ 16777216 := by rw [List.length_map]; exact hTb
          generalize (T.map fun r => (r.getD k 0, r.getD j 0)) = ML at f2 a1 a2 a3 hML
          generalize (T.any fun r => bears r k j 0 1) = b1 at a1 hbar
          generalize (T.any fun r => bears r k j 1 0) = b2 at a2 hbar
          generalize (T.any fun r => bears r k j 1 1) = b3 at a3 hbar
          have step : ∀ s : O, (oIf (tAndF (tOf (eOp gIn (eTup (aCons (eC (.int 0)) (aCons (eC (.int 1)) aNil))) (eVar 6))) (tAndF (tOf (eOp gIn (eTup (aCons (eC (.int 1)) (aCons (eC (.int 0)) aNil))) (eVar 6))) (tOf (eOp gIn (eTup (aCons (eC (.int 1)) (aCons (eC (.int 1)) aNil))) (eVar 6))))) (oRet (eTup (aCons (eVar 3) (aCons (eVar 4) aNil)))) oNx) [some (.dat (.list (rows.map rowD))), some (.dat (rowD g)), some (.dat (.list (T.map rowD))), some (.dat (nD k)), some (.dat (nD j)), none, some (.dat (.list (ML.map ipD)))] = s →
              (oSeq (oFix [2] (oSet 6 (eLc (iOf (eVar 2)) [5] (bN 5) (fun _ => .ok true) (eTup (aCons (eOp gIx (eVar 5) (eVar 3)) (aCons (eOp gIx (eVar 5) (eVar 4)) aNil))))))
        (oFix [6] (oIf (tAndF (tOf (eOp gIn (eTup (aCons (eC (.int 0)) (aCons (eC (.int 1)) aNil))) (eVar 6))) (tAndF (tOf (eOp gIn (eTup (aCons (eC (.int 1)) (aCons (eC (.int 0)) aNil))) (eVar 6))) (tOf (eOp gIn (eTup (aCons (eC (.int 1)) (aCons (eC (.int 1)) aNil))) (eVar 6))))) (oRet (eTup (aCons (eVar 3) (aCons (eVar 4) aNil)))) oNx))) [some (.dat (.list (rows.map rowD))), some (.dat (rowD g)), x2, some (.dat (nD k)), some (.dat (nD j)), none, x6] = s := by
            intro s hs
            refine seqN (ρ' := [some (.dat (.list (rows.map rowD))), some (.dat (rowD g)), some (.dat (.list (T.map rowD))), some (.dat (nD k)), some (.dat (nD j)), none, some (.own (.list (ML.map ipD)))]) ?_ hs
            clear hs a1 a2 a3 hbar f hr2
            rcases hx with rfl | rfl
            · refine fixN ?_
              walk_at "evs"
            · refine fixN ?_
              walk_at "evs"
          clear f f2 hr2
          constructor
          · intro hp0
            refine ⟨[some (.dat (.list (rows.map rowD))), some (.dat (rowD g)), some (.dat (.list (T.map rowD))), some (.dat (nD k)), some (.dat (nD j)), none, some (.dat (.list (ML.map ipD)))], .inl (step _ (ifN_f ?_ rfl)), _, _, _, .inr rfl, rfl⟩
            have hp0 : bar3 T k j = false := hp0
            rw [hbar] at hp0
            clear step hbar hx
            cases b1 <;> cases b2 <;> cases b3 <;> first | (cases hp0; done) | (clear hp0; walk_at "evs")
          · intro hp1
            have hp1 : bar3 T k j = true := hp1
            rw [hbar] at hp1
            refine step _ (ifN_t ?_ (by walk_at "ev"))
            clear step hbar hx
            cases b1 <;> cases b2 <;> cases b3 <;> first | (cases hp1; done) | (clear hp1; walk_at "evs"))
      have hit : (iAr (aCons (eOp gAdd (eVar 3) (eC (.int 1))) (aCons (eCall gLen (aCons (eVar 1) aNil)) aNil)) rng2Of) [some (.dat (.list (rows.map rowD))), some (.dat (rowD g)), x2, some (.dat (nD k)), x4, none, x6] = .ok (((List.range n).drop (k + 1)).map nD) := by
        have z1 : -1000000 ≤ (n : Int) := by omega
        have z2 : (n : Int) ≤ 1000000 := by omega
        have z3 : -1000000 ≤ (k : Int) + 1 := by omega
        have z4 : (k : Int) + 1 ≤ 1000000 := by omega
        have z5 := rng_drop n k hk
        clear inner f hr2 hx
        walk_at "evs"
      rw [List.find?_map]
      rcases inner with ⟨j, h1, h2⟩ | ⟨h1, ρ', h2, x2', x4', x6', h3, rfl⟩
      · refine .inr ⟨(k, j), ?_, forN hit h2⟩
        show (List.find? (fun j => bar3 T k j) _).map _ = _
        rw [h1]
        rfl
      · refine .inl ⟨?_, _, .inl (forN hit h2), _, _, _, _, h3, rfl⟩
        show (List.find? (fun j => bar3 T k j) _).map _ = _
        rw [h1]
        rfl)
  have hpf : (List.range n).findSome? (fun k => (((List.range n).drop (k + 1)).map fun j => (k, j)).find? fun p => bar3 T p.1 p.2) = (pairsL n).find? fun p => bar3 T p.1 p.2 := by
    unfold pairsL
    rw [List.find?_flatMap]
  rw [hpf] at hfind
  have l1 : -1000000 ≤ (n : Int) := by omega
  have l2 : (n : Int) ≤ 1000000 := by omega
  have hrg := rng_map n
  unfold f_law_first o_law_first
  refine fnO_rt rfl ?_
  refine seqN (ρ' := [some (.dat (.list (rows.map rowD))), some (.dat (rowD g)), some (.own (.list (T.map rowD))), none, none, none, none]) ?_ ?_
  · clear hfind hr2
    walk_at "evs"
  have hit : (iAr (aCons (eCall gLen (aCons (eVar 1) aNil)) aNil) rng1Of) [some (.dat (.list (rows.map rowD))), some (.dat (rowD g)), some (.own (.list (T.map rowD))), none, none, none, none] = .ok ((List.range n).map nD) := by
    clear hfind f hr2
    walk_at "evs"
    rw [Int.toNat_natCast, hrg]
  rcases hfind with ⟨p, h1, h2⟩ | ⟨h1, ρ', h2, h3⟩
  · rw [h1]
    exact oSeq_rt (forN hit h2)
  · rw [h1]
    refine seqN (forN hit h2) ?_
    rfl
theorem rows_spec (ns : List Int) (g : List Int) (hg : plainR g) (h1 : 0 < g.length) (h2 : g.length ≤ 1000) : ∃ rows : List (List Int), (∀ r ∈ rows, r.length = g.length ∧ plainR r) ∧ rows.length ≤ 1000 ∧ f_law_rows [scr ns, rowD g] = .ok (.own (.list (rows.map rowD))) := by
  generalize hc0 : cellAt ns 0 = c0
  have q0 := cell_spec ns 0 (by omega)
  have q2 := cell_spec ns 2 (by omega)
  have q3 := cell_spec ns 3 (by omega)
  simp only [show (0 : Int).toNat = 0 from rfl, show (2 : Int).toNat = 2 from rfl, show (3 : Int).toNat = 3 from rfl, hc0] at q0 q2 q3
  have hm0 : 0 ≤ c0 / 36 % 13 ∧ c0 / 36 % 13 < 13 := by omega
  unfold f_law_rows o_law_rows
  by_cases hb : c0 / 12 % 3 = 2
  · have hx : ∃ pk : Nat → List Int, ∀ k, (pk k).length = g.length ∧ plainR (pk k) ∧ f_law_row [.int (cellAt ns 3 + (k : Int)), .int (g.length : Int), .int 2] = .ok (.own (.list ((pk k).map PyData.int))) := by
      have := fun k : Nat => row_spec (cellAt ns 3 + (k : Int)) g.length 2 (by omega) (by omega) (by omega) (by omega)
      exact ⟨fun k => Classical.choose (this k), fun k => by
        obtain ⟨a1, a2, a3⟩ := Classical.choose_spec (this k)
        exact ⟨by rw [a1, Int.toNat_natCast], a2, a3⟩⟩
    obtain ⟨pk, hpk⟩ := hx
    have f := lcF_map (bd := bN 8) (fe := eCall gTuple (aCons (eCall f_law_row (aCons (eOp gAdd (eCall f_law_cell (aCons (eVar 0) (aCons (eC (.int 3)) aNil))) (eVar 8)) (aCons (eVar 3) (aCons (eC (.int 2)) aNil)))) aNil)) (ρ := [some (.dat (scr ns)), some (.dat (rowD g)), some (.dat (.int c0)), some (.dat (.int (g.length : Int))), none, none, none, none, none]) (e := nD) (fun k => rowD (pk k)) (List.range (c0 / 36 % 13).toNat) fun k _ => by
      have h := (hpk k).2.2
      refine ⟨_, rfl, .dat (rowD (pk k)), ?_, rfl⟩
      clear hpk q0 q2
      walk_at "evs"
    rw [← rng_map, show (List.range (c0 / 36 % 13).toNat).map (fun k => rowD (pk k)) = ((List.range (c0 / 36 % 13).toNat).map pk).map rowD by rw [List.map_map]; rfl] at f
    refine ⟨(List.range (c0 / 36 % 13).toNat).map pk, ?_, by simp; omega, ?_⟩
    · intro r hr
      obtain ⟨k, _, rfl⟩ := List.mem_map.mp hr
      exact ⟨(hpk k).1, (hpk k).2.1⟩
    · have z1 : -1000000 ≤ c0 / 36 % 13 := by omega
      have z2 : c0 / 36 % 13 ≤ 1000000 := by omega
      have z3 : (c0 / 36 % 13).toNat ≤ 16777216 := by omega
      refine fnO_rt rfl ?_
      clear hpk hm0 h1 h2
      walk_at "st"
      walk_at "st"
      refine oSeq_rt (ifN_t (by walk_at "evs") ?_)
      walk_at "evs"
      simp only [List.length_range, z3, if_true]
      walk_at "ev"
  · obtain ⟨left, L, L1, G, L3⟩ := grown_spec g (cellAt ns 2) hg (by omega)
    obtain ⟨st, s1, s2, s3⟩ := row_spec (cellAt ns 3) (c0 / 36 % 13) 5040 (by omega) (by omega) (by omega) (by omega)
    have hLne : 0 < L.length := List.length_pos_iff.mpr G.ne
    have hLz : (0 : Int) < (L.length : Int) := by omega
    have hgz : (0 : Int) < (g.length : Int) := by omega
    obtain ⟨ρ', k1, x4, rows, x6, x7, r1, r2, hx, rfl⟩ := oFor_pre (bd := bN 6) (body := (oSeq (oFix [4] (oSet 7 (eOp gIx (eVar 4) (eOp gMod (eVar 6) (eCall gLen (aCons (eVar 4) aNil))))))
    (oSeq (oIf (tAndF (tOf (eOp gEq (eOp gMod (eOp gDiv (eVar 2) (eC (.int 12))) (eC (.int 3))) (eC (.int 1)))) (tOf (eOp gEq (eOp gMod (eOp gDiv (eVar 6) (eC (.int 9))) (eC (.int 4))) (eC (.int 3))))) (oSet 7 (eCall f_law_flip (aCons (eVar 7) (aCons (eOp gMod (eOp gDiv (eVar 6) (eC (.int 36))) (eVar 3)) aNil)))) oNx)
    (oMutS (mMut 5 gAppend (aCons (eVar 7) aNil)))))) (e := PyData.int)
      (fun pre ρ => ∃ (x4 : Option Sl) (rows : List (List Int)) (x6 x7 : Option Sl), (∀ r ∈ rows, r.length = g.length ∧ plainR r) ∧ rows.length = pre.length ∧ (x4 = some (.own (.list (L.map rowD))) ∨ x4 = some (.dat (.list (L.map rowD)))) ∧ ρ = [some (.dat (scr ns)), some (.dat (rowD g)), some (.dat (.int c0)), some (.dat (.int (g.length : Int))), x4, some (.own (.list (rows.map rowD))), x6, x7, none]) st
      [some (.dat (scr ns)), some (.dat (rowD g)), some (.dat (.int c0)), some (.dat (.int (g.length : Int))), some (.own (.list (L.map rowD))), some (.own (.list [])), none, none, none] ⟨_, [], _, _, fun r h => (nomatch h), rfl, .inl rfl, rfl⟩ fun pre x post ρ hl2 hp => by
        obtain ⟨x4, rows, x6, x7, r1, r2, hx, rfl⟩ := hp
        have c3 := congrArg List.length hl2
        simp at c3
        have hbl : rows.length + 1 ≤ 16777216 := by omega
        have y0 : 0 ≤ x % (L.length : Int) := Int.emod_nonneg _ (by omega)
        have y1 : x % (L.length : Int) < L.length := Int.emod_lt_of_pos _ hLz
        obtain ⟨r, hr⟩ : ∃ r, L[(x % (L.length : Int)).toNat]? = some r := ⟨L[(x % (L.length : Int)).toNat]'(by omega), List.getElem?_eq_getElem (by omega)⟩
        have hrm := List.mem_of_getElem? hr
        have hrl := G.len r hrm
        have hrp := G.plain r hrm
        have hix : gIx (.list (L.map rowD)) (.int (x % (L.length : Int))) = .ok (.dat (rowD r)) := gIx_l (by rw [atI_pos y0, List.getElem?_map, hr]; rfl)
        have w0 : 0 ≤ x / 36 % (g.length : Int) := Int.emod_nonneg _ (by omega)
        have w1 : x / 36 % (g.length : Int) < g.length := Int.emod_lt_of_pos _ hgz
        have hf := flip_spec r (x / 36 % (g.length : Int)) w0 (by omega) (by omega)
        have add : ∀ z : List Int, z.length = g.length → plainR z → ∀ y ∈ rows ++ [z], y.length = g.length ∧ plainR y := by
          intro z z1 z2 y hy
          rcases List.mem_append.mp hy with hy | hy
          · exact r1 y hy
          · rw [List.mem_singleton.mp hy]; exact ⟨z1, z2⟩
        have st1 : ∀ s : O, (oSeq (oIf (tAndF (tOf (eOp gEq (eOp gMod (eOp gDiv (eVar 2) (eC (.int 12))) (eC (.int 3))) (eC (.int 1)))) (tOf (eOp gEq (eOp gMod (eOp gDiv (eVar 6) (eC (.int 9))) (eC (.int 4))) (eC (.int 3))))) (oSet 7 (eCall f_law_flip (aCons (eVar 7) (aCons (eOp gMod (eOp gDiv (eVar 6) (eC (.int 36))) (eVar 3)) aNil)))) oNx)
    (oMutS (mMut 5 gAppend (aCons (eVar 7) aNil)))) [some (.dat (scr ns)), some (.dat (rowD g)), some (.dat (.int c0)), some (.dat (.int (g.length : Int))), some (.dat (.list (L.map rowD))), some (.own (.list (rows.map rowD))), some (.dat (.int x)), some (.dat (rowD r)), none] = s →
            (oSeq (oFix [4] (oSet 7 (eOp gIx (eVar 4) (eOp gMod (eVar 6) (eCall gLen (aCons (eVar 4) aNil))))))
    (oSeq (oIf (tAndF (tOf (eOp gEq (eOp gMod (eOp gDiv (eVar 2) (eC (.int 12))) (eC (.int 3))) (eC (.int 1)))) (tOf (eOp gEq (eOp gMod (eOp gDiv (eVar 6) (eC (.int 9))) (eC (.int 4))) (eC (.int 3))))) (oSet 7 (eCall f_law_flip (aCons (eVar 7) (aCons (eOp gMod (eOp gDiv (eVar 6) (eC (.int 36))) (eVar 3)) aNil)))) oNx)
    (oMutS (mMut 5 gAppend (aCons (eVar 7) aNil))))) [some (.dat (scr ns)), some (.dat (rowD g)), some (.dat (.int c0)), some (.dat (.int (g.length : Int))), x4, some (.own (.list (rows.map rowD))), some (.dat (.int x)), x7, none] = s := by
          intro s hs
          refine seqN (ρ' := [some (.dat (scr ns)), some (.dat (rowD g)), some (.dat (.int c0)), some (.dat (.int (g.length : Int))), some (.dat (.list (L.map rowD))), some (.own (.list (rows.map rowD))), some (.dat (.int x)), some (.dat (rowD r)), none]) ?_ hs
          clear hs add hf w0 w1 hrl hrp hrm hr y0 y1 c3 r1 r2 hl2
          rcases hx with rfl | rfl
          · refine fixN ?_
            walk_at "evs"
          · refine fixN ?_
            walk_at "evs"
        by_cases t : c0 / 12 % 3 = 1 ∧ x / 9 % 4 = 3
        · obtain ⟨t1, t2⟩ := t
          refine ⟨_, [some (.dat (scr ns)), some (.dat (rowD g)), some (.dat (.int c0)), some (.dat (.int (g.length : Int))), some (.dat (.list (L.map rowD))), some (.own (.list ((rows ++ [flipR r (x / 36 % (g.length : Int)).toNat]).map rowD))), some (.dat (.int x)), some (.dat (rowD (flipR r (x / 36 % (g.length : Int)).toNat))), none], rfl, .inl (st1 _ ?_), _, rows ++ [flipR r (x / 36 % (g.length : Int)).toNat], _, _, add _ (by unfold flipR; rw [List.length_set]; exact hrl) (flip_plain hrp), by simp [r2], .inr rfl, rfl⟩
          clear st1 add w0 w1 hrl hrp hrm hr y0 y1 c3 r1 r2 hl2 hx hb
          refine seqN (ifN_t (by walk_at "evs") (by walk_at "evs"; rfl)) ?_
          walk_at "evs"
          simp only [List.map_append, List.map_cons, List.map_nil]
        · refine ⟨_, [some (.dat (scr ns)), some (.dat (rowD g)), some (.dat (.int c0)), some (.dat (.int (g.length : Int))), some (.dat (.list (L.map rowD))), some (.own (.list ((rows ++ [r]).map rowD))), some (.dat (.int x)), some (.dat (rowD r)), none], rfl, .inl (st1 _ ?_), _, rows ++ [r], _, _, add _ hrl hrp, by simp [r2], .inr rfl, rfl⟩
          clear st1 add w0 w1 hrl hrp hrm hr y0 y1 c3 r1 r2 hl2 hx hb
          refine seqN (ifN_f ?_ rfl) ?_
          · by_cases t1 : c0 / 12 % 3 = 1
            · have t2 : ¬ (x / 9 % 4 = 3) := fun z => t ⟨t1, z⟩
              clear t
              walk_at "evs"
            · clear t
              walk_at "evs"
          · clear t
            walk_at "evs"
            simp only [List.map_append, List.map_cons, List.map_nil]
    refine ⟨rows, r1, by omega, ?_⟩
    refine fnO_rt rfl ?_
    clear r1 r2 hx hm0 s1 s2 h1 h2
    walk_at "st"
    walk_at "st"
    refine seqN (ifN_f (by clear k1; walk_at "evs") rfl) ?_
    walk_at "st"
    refine seqN (by walk_at "ev"; rfl) ?_
    refine seqN (forN (by walk_at "evs") k1) ?_
    walk_at "ev"

theorem dn_np (p : Nat × Nat) : dn 1 (npD p) = true := dn_row [(p.1 : Int), (p.2 : Int)]
theorem gNe_np (p : Nat × Nat) : gNe (npD p) (npD p) = retB false := by
  have := gNe_dn (n := 1) (m := 1) (d := npD p) (e := npD p) (p := True) (dn_np p) (dn_np p) (by decide) (by decide) (by simp)
  simpa using this
theorem gNe_rows (l : List (List Int)) : gNe (.list (l.map rowD)) (.list (l.map rowD)) = retB false := by
  have := gNe_dn (n := 2) (m := 2) (d := .list (l.map rowD)) (e := .list (l.map rowD)) (p := True) (dn_lst dn_row l) (dn_lst dn_row l) (by decide) (by decide) (by simp)
  simpa using this
theorem bar3_rev (rows : List (List Int)) (g : List Int) (i j : Nat) : bar3 (rows.reverse.map fun r => ag r g) i j = bar3 (rows.map fun r => ag r g) i j := by
  unfold bar3
  rw [List.map_reverse, List.any_reverse, List.any_reverse, List.any_reverse]
theorem good (ns : List Int) : f_law_k06 [scr ns] = .ok (.dat (.bool true)) := by
  generalize hc0 : cellAt ns 0 = c0
  obtain ⟨g, g1, g2, g3⟩ := row_spec (cellAt ns 1) (1 + c0 % 12) 2 (by omega) (by omega) (by omega) (by omega)
  obtain ⟨rows, r1, r2, r3⟩ := rows_spec ns g g2 (by omega) (by omega)
  have q0 := cell_spec ns 0 (by omega)
  have q1 := cell_spec ns 1 (by omega)
  simp only [show (0 : Int).toNat = 0 from rfl, show (1 : Int).toNat = 1 from rfl, hc0] at q0 q1
  have b1 := barred_spec rows g g2 (by omega) r1 (by omega)
  have b2 := first_spec rows g g2 (by omega) r1 (by omega)
  have b3 := barred_spec rows.reverse g g2 (by omega) (fun r hr => r1 r (List.mem_reverse.mp hr)) (by rw [List.length_reverse]; omega)
  rw [show (fun p : Nat × Nat => bar3 (rows.reverse.map fun r => ag r g) p.1 p.2) = fun p : Nat × Nat => bar3 (rows.map fun r => ag r g) p.1 p.2 from funext fun p => bar3_rev rows g p.1 p.2] at b3
  have n1 := gNe_rows rows
  clear g1 g2 r1 r2
  unfold f_law_k06 o_law_k06
  refine fnO_rt rfl ?_
  walk_at "st"
  walk_at "st"
  walk_at "st"
  clear q0 q1 g3 r3
  cases hf : (pairsL g.length).find? (fun p => bar3 (rows.map fun r => ag r g) p.1 p.2) with
  | none =>
    rw [hf] at b1 b2 b3
    have c1 := is_borne_spec rows g _ b1
    have c3 := is_borne_spec rows.reverse g _ b3
    simp only [isNoneD, List.map_reverse] at b1 b2 b3 c1 c3
    clear hf
    refine seqN (fixN (by walk_at "evs"; rfl)) ?_
    refine seqN (fixN (by walk_at "ev"; rfl)) ?_
    refine seqN (fixN (by walk_at "evs"; rfl)) ?_
    refine seqN (ifN_f (by walk_at "evs") rfl) ?_
    refine seqN (ifN_f (by walk_at "evs") rfl) ?_
    refine seqN (fixN (by walk_at "evs"; rfl)) ?_
    refine seqN (fixN (ifN_f (by walk_at "evs") rfl)) ?_
    refine fixN ?_
    simp only [eLstRev, oRet]
    walk_at "evs"
    simp only [eLstRev]
    walk_at "evs"
  | some p =>
    rw [hf] at b1 b2 b3
    have c1 := is_borne_spec rows g _ b1
    have c3 := is_borne_spec rows.reverse g _ b3
    have n2 := gNe_np p
    have i0 : gIx (npD p) (.int 0) = .ok (.dat (nD p.1)) := gIx_t rfl
    have i1 : gIx (npD p) (.int 1) = .ok (.dat (nD p.2)) := gIx_t rfl
    have w1 := whole_spec (p.1 : Int)
    have w2 := whole_spec (p.2 : Int)
    simp only [isNoneD, List.map_reverse] at b1 b2 b3 c1 c3
    clear hf
    refine seqN (fixN (by walk_at "evs"; rfl)) ?_
    refine seqN (fixN (by walk_at "ev"; rfl)) ?_
    refine seqN (fixN (by walk_at "evs"; rfl)) ?_
    refine seqN (ifN_f (by walk_at "evs") rfl) ?_
    refine seqN (ifN_t (by walk_at "evs") (seqN (ifN_f (by walk_at "evs") rfl) (ifN_f (by walk_at "evs") rfl))) ?_
    refine seqN (fixN (by walk_at "evs"; rfl)) ?_
    refine seqN (fixN (ifN_f (by walk_at "evs") rfl)) ?_
    refine fixN ?_
    simp only [eLstRev, oRet]
    walk_at "evs"
    simp only [eLstRev]
    walk_at "evs"
end Dl
namespace Dl
open PySem PySem.Spec PyProof.Rows L2
def top (i : Nat) : Stmt := PySem.Challenge.pw_unmix_k06_bars_among_rows.main.body.getD i (.Pass ⟨0, 0, 0, 0⟩)
abbrev dd (x : Str) (s : Stmt) : He.DefD := ⟨(x, none), x, x, defArgs s, defBody s, defScope s, [], []⟩
abbrev s_pairs_of : Stmt := top 5
abbrev N_pairs_of : List Str := ["marks", "found", "k", "one", "other"]
theorem sc_pairs_of : FnScope N_pairs_of ["marks"] (defScope s_pairs_of) := ⟨rfl, rfl, rfl, by decide +kernel, rfl, by decide +kernel, by decide +kernel⟩
abbrev s_has_all : Stmt := top 9
abbrev N_has_all : List Str := ["by", "pair"]
theorem sc_has_all : FnScope N_has_all ["by"] (defScope s_has_all) := ⟨rfl, rfl, rfl, by decide +kernel, rfl, by decide +kernel, by decide +kernel⟩
abbrev s_ways_of_mark : Stmt := top 6
abbrev N_ways_of_mark : List Str := ["mark"]
theorem sc_ways_of_mark : FnScope N_ways_of_mark ["mark"] (defScope s_ways_of_mark) := ⟨rfl, rfl, rfl, by decide +kernel, rfl, by decide +kernel, by decide +kernel⟩
abbrev s_shows : Stmt := top 7
abbrev N_shows : List Str := ["sight", "one", "other", "found", "a", "b"]
theorem sc_shows : FnScope N_shows ["sight", "one", "other"] (defScope s_shows) := ⟨rfl, rfl, rfl, by decide +kernel, rfl, by decide +kernel, by decide +kernel⟩
abbrev s_shown_by : Stmt := top 8
abbrev N_shown_by : List Str := ["folk", "one", "other", "by", "name", "sight", "pair"]
theorem sc_shown_by : FnScope N_shown_by ["folk", "one", "other"] (defScope s_shown_by) := ⟨rfl, rfl, rfl, by decide +kernel, rfl, by decide +kernel, by decide +kernel⟩
abbrev s_changed_mark : Stmt := top 1
abbrev N_changed_mark : List Str := ["mark", "ground"]
theorem sc_changed_mark : FnScope N_changed_mark ["mark", "ground"] (defScope s_changed_mark) := ⟨rfl, rfl, rfl, by decide +kernel, rfl, by decide +kernel, by decide +kernel⟩
abbrev s_against : Stmt := top 2
abbrev N_against : List Str := ["row", "founder", "mark", "ground"]
theorem sc_against : FnScope N_against ["row", "founder"] (defScope s_against) := ⟨rfl, rfl, rfl, by decide +kernel, rfl, by decide +kernel, by decide +kernel⟩
abbrev s_barred_at : Stmt := top 10
abbrev N_barred_at : List Str := ["rows", "founder", "told", "one", "other", "row"]
theorem sc_barred_at : FnScope N_barred_at ["rows", "founder"] (defScope s_barred_at) := ⟨rfl, rfl, rfl, by decide +kernel, rfl, by decide +kernel, by decide +kernel⟩
abbrev s_is_borne : Stmt := top 11
abbrev N_is_borne : List Str := ["rows", "founder"]
theorem sc_is_borne : FnScope N_is_borne ["rows", "founder"] (defScope s_is_borne) := ⟨rfl, rfl, rfl, by decide +kernel, rfl, by decide +kernel, by decide +kernel⟩
abbrev s_law_whole : Stmt := top 15
abbrev N_law_whole : List Str := ["_law_found"]
theorem sc_law_whole : FnScope N_law_whole ["_law_found"] (defScope s_law_whole) := ⟨rfl, rfl, rfl, by decide +kernel, rfl, by decide +kernel, by decide +kernel⟩
abbrev s_law_against : Stmt := top 16
abbrev N_law_against : List Str := ["_law_row_here", "_law_founder", "_law_told", "_law_at"]
theorem sc_law_against : FnScope N_law_against ["_law_row_here", "_law_founder"] (defScope s_law_against) := ⟨rfl, rfl, rfl, by decide +kernel, rfl, by decide +kernel, by decide +kernel⟩
abbrev s_law_first : Stmt := top 19
abbrev N_law_first : List Str := ["_law_rows_here", "_law_base", "_law_told", "_law_i", "_law_j", "_law_row_here", "_law_seen"]
theorem sc_law_first : FnScope N_law_first ["_law_rows_here", "_law_base"] (defScope s_law_first) := ⟨rfl, rfl, rfl, by decide +kernel, rfl, by decide +kernel, by decide +kernel⟩
abbrev s_law_row : Stmt := top 14
abbrev N_law_row : List Str := ["_law_cell_here", "_law_many", "_law_size", "_law_row_here", "_law_seed", "_law_k", "_law_rest", "_law_mixed"]
theorem sc_law_row : FnScope N_law_row ["_law_cell_here", "_law_many", "_law_size"] (defScope s_law_row) := ⟨rfl, rfl, rfl, by decide +kernel, rfl, by decide +kernel, by decide +kernel⟩
abbrev s_law_cell : Stmt := top 13
abbrev N_law_cell : List Str := ["_law_script", "_law_at"]
theorem sc_law_cell : FnScope N_law_cell ["_law_script", "_law_at"] (defScope s_law_cell) := ⟨rfl, rfl, rfl, by decide +kernel, rfl, by decide +kernel, by decide +kernel⟩
abbrev s_law_flip : Stmt := top 17
abbrev N_law_flip : List Str := ["_law_row_here", "_law_at"]
theorem sc_law_flip : FnScope N_law_flip ["_law_row_here", "_law_at"] (defScope s_law_flip) := ⟨rfl, rfl, rfl, by decide +kernel, rfl, by decide +kernel, by decide +kernel⟩
abbrev s_law_grown : Stmt := top 18
abbrev N_law_grown : List Str := ["_law_founder", "_law_cell_here", "_law_rows_here", "_law_left", "_law_step", "_law_mark"]
theorem sc_law_grown : FnScope N_law_grown ["_law_founder", "_law_cell_here"] (defScope s_law_grown) := ⟨rfl, rfl, rfl, by decide +kernel, rfl, by decide +kernel, by decide +kernel⟩
abbrev s_law_rows : Stmt := top 20
abbrev N_law_rows : List Str := ["_law_script", "_law_base", "_law_pick", "_law_many", "_law_grown_here", "_law_rows_here", "_law_step", "_law_row_here", "_law_k"]
theorem sc_law_rows : FnScope N_law_rows ["_law_script", "_law_base"] (defScope s_law_rows) := ⟨rfl, rfl, rfl, by decide +kernel, rfl, by decide +kernel, by decide +kernel⟩
abbrev s_law_k06 : Stmt := top 21
abbrev N_law_k06 : List Str := ["_law_script", "_law_pick", "_law_base", "_law_rows_here", "_law_due", "_law_handed", "_law_found", "_law_told"]
theorem sc_law_k06 : FnScope N_law_k06 ["_law_script"] (defScope s_law_k06) := ⟨rfl, rfl, rfl, by decide +kernel, rfl, by decide +kernel, by decide +kernel⟩
def fns0 : List He.DefD := [dd "pairs_of" s_pairs_of, dd "has_all" s_has_all, dd "ways_of_mark" s_ways_of_mark, dd "shows" s_shows, dd "shown_by" s_shown_by, dd "changed_mark" s_changed_mark, dd "against" s_against, dd "barred_at" s_barred_at, dd "is_borne" s_is_borne, dd "_law_whole" s_law_whole, dd "_law_against" s_law_against, dd "_law_first" s_law_first, dd "_law_row" s_law_row, dd "_law_cell" s_law_cell, dd "_law_flip" s_law_flip, dd "_law_grown" s_law_grown, dd "_law_rows" s_law_rows, dd "law" s_law_k06]
def fns : List He.DefD := fns0
def fcs0 : List He.Fa := [.free "enumerate", .glo "pairs_of", .free "len", .free "list", .free "range", .free "all", .glo "has_all", .glo "ways_of_mark", .glo "shows", .glo "shown_by", .free "zip", .glo "changed_mark", .free "tuple", .glo "against", .glo "barred_at", .glo "is_borne", .free "reversed", .free "isinstance", .free "bool", .free "int"]
def fcs1 : List He.Fa := [.glo "_law_whole", .glo "_law_against", .glo "_law_first", .glo "_law_row", .glo "_law_cell", .glo "_law_flip", .glo "_law_grown", .glo "_law_rows", .glo "law"]
def fcs : List He.Fa := fcs0 ++ (fcs1)
def lnames0 : List PySem.Str := ["changed_mark", "against", "BARRING", "pairs_of", "ways_of_mark", "shows", "shown_by", "has_all", "barred_at", "is_borne", "_law_cell", "_law_row", "_law_whole", "_law_against", "_law_flip", "_law_grown", "_law_first", "_law_rows"]
def lnames : List PySem.Str := lnames0
/-- what the top leaves -/
def exC (K : PySem.W.Frag) : Bool := conB K "BARRING" (fz [(fz [(.int 0), (.int 1)]), (fz [(.int 1), (.int 0)]), (fz [(.int 1), (.int 1)])]) && (true)
structure Tx (K : PySem.W.Frag) (mg : Str → Option Value) : Prop where
  says : He.SaysD fcs fns K
  con : exC K = true
  ok : ∃ h : Heap, K.In h ∧ h.Ns mainGlobals mg
variable {P : Program} {w : World} {K : PySem.W.Frag} {mg : Str → Option Value} {base : Heap}
theorem Tx.free_enumerate (T : Tx K mg) : mg "enumerate" = none := let ⟨_, X, G⟩ := T.ok; He.free_ok X G (T.says.fact 0 rfl)
theorem Tx.glo_pairs_of (T : Tx K mg) : mg "pairs_of" = some (.ref (He.ga K "pairs_of")) := let ⟨_, X, G⟩ := T.ok; He.glo_ok X G (T.says.fact 1 rfl)
theorem Tx.free_len (T : Tx K mg) : mg "len" = none := let ⟨_, X, G⟩ := T.ok; He.free_ok X G (T.says.fact 2 rfl)
theorem Tx.free_list (T : Tx K mg) : mg "list" = none := let ⟨_, X, G⟩ := T.ok; He.free_ok X G (T.says.fact 3 rfl)
theorem Tx.free_range (T : Tx K mg) : mg "range" = none := let ⟨_, X, G⟩ := T.ok; He.free_ok X G (T.says.fact 4 rfl)
theorem Tx.free_all (T : Tx K mg) : mg "all" = none := let ⟨_, X, G⟩ := T.ok; He.free_ok X G (T.says.fact 5 rfl)
theorem Tx.glo_has_all (T : Tx K mg) : mg "has_all" = some (.ref (He.ga K "has_all")) := let ⟨_, X, G⟩ := T.ok; He.glo_ok X G (T.says.fact 6 rfl)
theorem Tx.glo_ways_of_mark (T : Tx K mg) : mg "ways_of_mark" = some (.ref (He.ga K "ways_of_mark")) := let ⟨_, X, G⟩ := T.ok; He.glo_ok X G (T.says.fact 7 rfl)
theorem Tx.glo_shows (T : Tx K mg) : mg "shows" = some (.ref (He.ga K "shows")) := let ⟨_, X, G⟩ := T.ok; He.glo_ok X G (T.says.fact 8 rfl)
theorem Tx.glo_shown_by (T : Tx K mg) : mg "shown_by" = some (.ref (He.ga K "shown_by")) := let ⟨_, X, G⟩ := T.ok; He.glo_ok X G (T.says.fact 9 rfl)
theorem Tx.free_zip (T : Tx K mg) : mg "zip" = none := let ⟨_, X, G⟩ := T.ok; He.free_ok X G (T.says.fact 10 rfl)
theorem Tx.glo_changed_mark (T : Tx K mg) : mg "changed_mark" = some (.ref (He.ga K "changed_mark")) := let ⟨_, X, G⟩ := T.ok; He.glo_ok X G (T.says.fact 11 rfl)
theorem Tx.free_tuple (T : Tx K mg) : mg "tuple" = none := let ⟨_, X, G⟩ := T.ok; He.free_ok X G (T.says.fact 12 rfl)
theorem Tx.glo_against (T : Tx K mg) : mg "against" = some (.ref (He.ga K "against")) := let ⟨_, X, G⟩ := T.ok; He.glo_ok X G (T.says.fact 13 rfl)
theorem Tx.glo_barred_at (T : Tx K mg) : mg "barred_at" = some (.ref (He.ga K "barred_at")) := let ⟨_, X, G⟩ := T.ok; He.glo_ok X G (T.says.fact 14 rfl)
theorem Tx.glo_is_borne (T : Tx K mg) : mg "is_borne" = some (.ref (He.ga K "is_borne")) := let ⟨_, X, G⟩ := T.ok; He.glo_ok X G (T.says.fact 15 rfl)
theorem Tx.free_reversed (T : Tx K mg) : mg "reversed" = none := let ⟨_, X, G⟩ := T.ok; He.free_ok X G (T.says.fact 16 rfl)
theorem Tx.free_isinstance (T : Tx K mg) : mg "isinstance" = none := let ⟨_, X, G⟩ := T.ok; He.free_ok X G (T.says.fact 17 rfl)
theorem Tx.free_bool (T : Tx K mg) : mg "bool" = none := let ⟨_, X, G⟩ := T.ok; He.free_ok X G (T.says.fact 18 rfl)
theorem Tx.free_int (T : Tx K mg) : mg "int" = none := let ⟨_, X, G⟩ := T.ok; He.free_ok X G (T.says.fact 19 rfl)
theorem Tx.glo_law_whole (T : Tx K mg) : mg "_law_whole" = some (.ref (He.ga K "_law_whole")) := let ⟨_, X, G⟩ := T.ok; He.glo_ok X G (T.says.fact 20 rfl)
theorem Tx.glo_law_against (T : Tx K mg) : mg "_law_against" = some (.ref (He.ga K "_law_against")) := let ⟨_, X, G⟩ := T.ok; He.glo_ok X G (T.says.fact 21 rfl)
theorem Tx.glo_law_first (T : Tx K mg) : mg "_law_first" = some (.ref (He.ga K "_law_first")) := let ⟨_, X, G⟩ := T.ok; He.glo_ok X G (T.says.fact 22 rfl)
theorem Tx.glo_law_row (T : Tx K mg) : mg "_law_row" = some (.ref (He.ga K "_law_row")) := let ⟨_, X, G⟩ := T.ok; He.glo_ok X G (T.says.fact 23 rfl)
theorem Tx.glo_law_cell (T : Tx K mg) : mg "_law_cell" = some (.ref (He.ga K "_law_cell")) := let ⟨_, X, G⟩ := T.ok; He.glo_ok X G (T.says.fact 24 rfl)
theorem Tx.glo_law_flip (T : Tx K mg) : mg "_law_flip" = some (.ref (He.ga K "_law_flip")) := let ⟨_, X, G⟩ := T.ok; He.glo_ok X G (T.says.fact 25 rfl)
theorem Tx.glo_law_grown (T : Tx K mg) : mg "_law_grown" = some (.ref (He.ga K "_law_grown")) := let ⟨_, X, G⟩ := T.ok; He.glo_ok X G (T.says.fact 26 rfl)
theorem Tx.glo_law_rows (T : Tx K mg) : mg "_law_rows" = some (.ref (He.ga K "_law_rows")) := let ⟨_, X, G⟩ := T.ok; He.glo_ok X G (T.says.fact 27 rfl)
theorem Tx.glo_law (T : Tx K mg) : mg "law" = some (.ref (He.ga K "law")) := let ⟨_, X, G⟩ := T.ok; He.glo_ok X G (T.says.fact 28 rfl)
theorem Tx.con_BARRING (T : Tx K mg) : IsCon K mg "BARRING" (fz [(fz [(.int 0), (.int 1)]), (fz [(.int 1), (.int 0)]), (fz [(.int 1), (.int 1)])]) := let ⟨_, X, G⟩ := T.ok; con_ok X G (Bool.and_eq_true_iff.mp T.con).1
theorem room2 {k : Nat} {A : Around} (hr : Room k A) : A.units + 1 < cLine := by have := hr.un; omega
theorem room65 {k : Nat} {A : Around} (hr : Room k A) : A.units + 65 < cLine := by have := hr.un; omega
theorem kn_pairs_of (T : Tx K mg) : Knows P w K mg base "pairs_of" 1 ["marks"] f_pairs_of :=
  kn_mk (st := s_pairs_of) (T.says.def_ 0 rfl) sc_pairs_of T.glo_pairs_of (fun _ _ _ _ _ _ us hl => match us, hl with | [_], _ => rfl) fun cdv A outer s H E hr hx => by
  have hp := owns_cx (P := P) (w := w) (K := K) (mg := mg) (base := base) (N := N_pairs_of) (qual := "pairs_of") (scope := defScope s_pairs_of) (f := He.ga K "pairs_of") (cdv := cdv) (A := A) (outer := outer) (s := s) (H := H) (E := E)
  exact (dss_cons (ds_set (i := 1) sc_pairs_of.nd rfl (by first | exact Or.inl rfl | exact Or.inr rfl) (de_lst da_nil))
    (dss_cons (ds_for hp rfl (di_enum (by rfl) (T.free_enumerate) (da_cons (de_var 0 (pv 0)) da_nil)) (dg_tup rfl (dgs_cons (dg_name (i := 2) sc_pairs_of.nd rfl (by first | exact Or.inl rfl | exact Or.inr rfl)) (dgs_cons (dg_name (i := 3) sc_pairs_of.nd rfl (by first | exact Or.inl rfl | exact Or.inr rfl)) dgs_nil))) (dss_one (ds_for hp rfl (di_any (de_sl (de_var 0 (pv 0)) (do_some (de_op op_addA od_add (de_var 2 (pv 2)) de_int)) do_none)) (dg_name (i := 4) sc_pairs_of.nd rfl (by first | exact Or.inl rfl | exact Or.inr rfl)) (dss_one (ds_mut (dm_mut PySem.F.slot_list_append PySem.F.type_list_append mt_append mut_append (pv 1) (da_cons (de_tup (da_cons (de_var 3 (pv 3)) (da_cons (de_var 4 (pv 4)) da_nil))) da_nil) (fun t ht => pe_bm PySem.F.plainAttrs_list PySem.F.slot_list_append PySem.F.type_list_append mt_append (pv 1) ht)))) bN_ne)) (bTup_ne (bCons_ne bN_ne (bCons_ne bN_ne bNil_ne))))
    (dss_one (ds_retV 1 (pv 1)))))
theorem kn_has_all (T : Tx K mg) : Knows P w K mg base "has_all" 1 ["by"] f_has_all :=
  kn_mk (st := s_has_all) (T.says.def_ 1 rfl) sc_has_all T.glo_has_all (fun _ _ _ _ _ _ us hl => match us, hl with | [_], _ => rfl) fun cdv A outer s H E hr hx => by
  have hp := owns_cx (P := P) (w := w) (K := K) (mg := mg) (base := base) (N := N_has_all) (qual := "has_all") (scope := defScope s_has_all) (f := He.ga K "has_all") (cdv := cdv) (A := A) (outer := outer) (s := s) (H := H) (E := E)
  exact (dss_one (ds_ret (de_callB (cr_all rfl) cd_all (by rfl) (T.free_all) (by decide +kernel) (da_cons (de_lc (own := [("pair", 1)]) (sl := [1]) rfl sc_has_all.nd (di_con (by rfl) T.con_BARRING) (blkOk_by (N := N_has_all) (sc := defScope s_has_all) (by decide +kernel)) (by decide) (fun _ _ _ _ _ => (dg_name (i := 1) sc_has_all.nd rfl (by first | exact Or.inl rfl | exact Or.inr rfl))) (fun _ _ _ _ _ => dts_nil) (fun _ _ _ _ _ => (de_cmp (op_inT (room2 hr)) od_inT (de_var 1 (pv 1)) (de_var 0 (pv 0)) (by first | rfl | with_unfolding_all rfl)))) da_nil))))
theorem kn_ways_of_mark (T : Tx K mg) : Knows P w K mg base "ways_of_mark" 1 ["mark"] f_ways_of_mark :=
  kn_mk (st := s_ways_of_mark) (T.says.def_ 2 rfl) sc_ways_of_mark T.glo_ways_of_mark (fun _ _ _ _ _ _ us hl => match us, hl with | [_], _ => rfl) fun cdv A outer s H E hr hx => by
  have hp := owns_cx (P := P) (w := w) (K := K) (mg := mg) (base := base) (N := N_ways_of_mark) (qual := "ways_of_mark") (scope := defScope s_ways_of_mark) (f := He.ga K "ways_of_mark") (cdv := cdv) (A := A) (outer := outer) (s := s) (H := H) (E := E)
  exact (dss_cons (ds_if (dt_cmp (op_eqA hr.units) od_eq (de_var 0 (pv 0)) de_int (nomark _)) (dss_one (ds_ret (de_lst (da_cons de_int (da_cons de_int da_nil))))) dss_nil)
    (dss_one (ds_ret (de_lst (da_cons (de_var 0 (pv 0)) da_nil)))))
theorem kn_shows (T : Tx K mg) : Knows P w K mg base "shows" 2 ["sight", "one", "other"] f_shows :=
  kn_mk (st := s_shows) (T.says.def_ 3 rfl) sc_shows T.glo_shows (fun _ _ _ _ _ _ us hl => match us, hl with | [_, _, _], _ => rfl) fun cdv A outer s H E hr hx => by
  have hp := owns_cx (P := P) (w := w) (K := K) (mg := mg) (base := base) (N := N_shows) (qual := "shows") (scope := defScope s_shows) (f := He.ga K "shows") (cdv := cdv) (A := A) (outer := outer) (s := s) (H := H) (E := E)
  exact (dss_cons (ds_if (DW.dt (dw_and (dt_cmp (op_eqA hr.units) od_eq (de_ix (de_var 0 (pv 0)) (de_var 1 (pv 1)) (fun _ _ => rfl)) de_int (nomark _)) (dw_and1 (dt_cmp (op_eqA hr.units) od_eq (de_ix (de_var 0 (pv 0)) (de_var 2 (pv 2)) (fun _ _ => rfl)) de_int (nomark _))))) (dss_one (ds_ret (de_lst da_nil))) dss_nil)
    (dss_cons (ds_set (i := 3) sc_shows.nd rfl (by first | exact Or.inl rfl | exact Or.inr rfl) (de_lst da_nil))
    (dss_cons (ds_for hp rfl (di_any (de_kn (kn_ways_of_mark T) (hr.mono (by decide)) (by rfl) hx (da_cons (de_ix (de_var 0 (pv 0)) (de_var 1 (pv 1)) (fun _ _ => rfl)) da_nil) (aCons_len aNil_len))) (dg_name (i := 4) sc_shows.nd rfl (by first | exact Or.inl rfl | exact Or.inr rfl)) (dss_one (ds_for hp rfl (di_any (de_kn (kn_ways_of_mark T) (hr.mono (by decide)) (by rfl) hx (da_cons (de_ix (de_var 0 (pv 0)) (de_var 2 (pv 2)) (fun _ _ => rfl)) da_nil) (aCons_len aNil_len))) (dg_name (i := 5) sc_shows.nd rfl (by first | exact Or.inl rfl | exact Or.inr rfl)) (dss_one (ds_mut (dm_mut PySem.F.slot_list_append PySem.F.type_list_append mt_append mut_append (pv 3) (da_cons (de_tup (da_cons (de_var 4 (pv 4)) (da_cons (de_var 5 (pv 5)) da_nil))) da_nil) (fun t ht => pe_bm PySem.F.plainAttrs_list PySem.F.slot_list_append PySem.F.type_list_append mt_append (pv 3) ht)))) bN_ne)) bN_ne)
    (dss_one (ds_retV 3 (pv 3))))))
theorem kn_shown_by (T : Tx K mg) : Knows P w K mg base "shown_by" 3 ["folk", "one", "other"] f_shown_by :=
  kn_mk (st := s_shown_by) (T.says.def_ 4 rfl) sc_shown_by T.glo_shown_by (fun _ _ _ _ _ _ us hl => match us, hl with | [_, _, _], _ => rfl) fun cdv A outer s H E hr hx => by
  have hp := owns_cx (P := P) (w := w) (K := K) (mg := mg) (base := base) (N := N_shown_by) (qual := "shown_by") (scope := defScope s_shown_by) (f := He.ga K "shown_by") (cdv := cdv) (A := A) (outer := outer) (s := s) (H := H) (E := E)
  exact (dss_cons (ds_set (i := 3) sc_shown_by.nd rfl (by first | exact Or.inl rfl | exact Or.inr rfl) de_newT)
    (dss_cons (ds_for hp rfl (di_any (de_var 0 (pv 0))) (dg_tup rfl (dgs_cons (dg_name (i := 4) sc_shown_by.nd rfl (by first | exact Or.inl rfl | exact Or.inr rfl)) (dgs_cons (dg_name (i := 5) sc_shown_by.nd rfl (by first | exact Or.inl rfl | exact Or.inr rfl)) dgs_nil))) (dss_one (ds_for hp rfl (di_any (de_kn (kn_shows T) (hr.mono (by decide)) (by rfl) hx (da_cons (de_var 5 (pv 5)) (da_cons (de_var 1 (pv 1)) (da_cons (de_var 2 (pv 2)) da_nil))) (aCons_len (aCons_len (aCons_len aNil_len))))) (dg_name (i := 6) sc_shown_by.nd rfl (by first | exact Or.inl rfl | exact Or.inr rfl)) (dss_one (ds_if (dt_pub (dt_cmp (op_notInT (room2 hr)) od_notInT (de_var 6 (pv 6)) (de_var 3 (pv 3)) (by first | rfl | with_unfolding_all rfl))) (dss_one (ds_putT (i := 3) (room2 hr) (de_var 4 (pv 4)) (pv 3) (de_var 6 (pv 6)))) dss_nil)) bN_ne)) (bTup_ne (bCons_ne bN_ne (bCons_ne bN_ne bNil_ne))))
    (dss_one (ds_retV 3 (pv 3)))))
theorem kn_changed_mark (T : Tx K mg) : Knows P w K mg base "changed_mark" 1 ["mark", "ground"] f_changed_mark :=
  kn_mk (st := s_changed_mark) (T.says.def_ 5 rfl) sc_changed_mark T.glo_changed_mark (fun _ _ _ _ _ _ us hl => match us, hl with | [_, _], _ => rfl) fun cdv A outer s H E hr hx => by
  have hp := owns_cx (P := P) (w := w) (K := K) (mg := mg) (base := base) (N := N_changed_mark) (qual := "changed_mark") (scope := defScope s_changed_mark) (f := He.ga K "changed_mark") (cdv := cdv) (A := A) (outer := outer) (s := s) (H := H) (E := E)
  exact (dss_cons (ds_if (dt_cmp (op_eqA hr.units) od_eq (de_var 0 (pv 0)) de_int (nomark _)) (dss_one (ds_ret de_int)) dss_nil)
    (dss_one (ds_ret (de_op op_mod od_mod (de_op op_addA od_add (de_var 0 (pv 0)) (de_var 1 (pv 1))) de_int))))
theorem kn_against (T : Tx K mg) : Knows P w K mg base "against" 2 ["row", "founder"] f_against :=
  kn_mk (st := s_against) (T.says.def_ 6 rfl) sc_against T.glo_against (fun _ _ _ _ _ _ us hl => match us, hl with | [_, _], _ => rfl) fun cdv A outer s H E hr hx => by
  have hp := owns_cx (P := P) (w := w) (K := K) (mg := mg) (base := base) (N := N_against) (qual := "against") (scope := defScope s_against) (f := He.ga K "against") (cdv := cdv) (A := A) (outer := outer) (s := s) (H := H) (E := E)
  exact (dss_one (ds_ret (de_callTy call_tuple_of cd_tuple (by rfl) (T.free_tuple) (by decide +kernel) (da_cons (de_lc (own := [("mark", 2), ("ground", 3)]) (sl := ([2] ++ ([3] ++ []))) rfl sc_against.nd (di_zip (by rfl) (T.free_zip) (da_cons (de_var 0 (pv 0)) (da_cons (de_var 1 (pv 1)) da_nil))) (blkOk_by (N := N_against) (sc := defScope s_against) (by decide +kernel)) (by decide) (fun _ _ _ _ _ => (dg_tup rfl (dgs_cons (dg_name (i := 2) sc_against.nd rfl (by first | exact Or.inl rfl | exact Or.inr rfl)) (dgs_cons (dg_name (i := 3) sc_against.nd rfl (by first | exact Or.inl rfl | exact Or.inr rfl)) dgs_nil)))) (fun _ _ _ _ _ => dts_nil) (fun _ _ _ _ _ => (de_kn (kn_changed_mark T) (hr.mono (by decide)) (by rfl) passL (da_cons (de_var 2 (pv 2)) (da_cons (de_var 3 (pv 3)) da_nil)) (aCons_len (aCons_len aNil_len))))) da_nil))))
theorem kn_barred_at (T : Tx K mg) : Knows P w K mg base "barred_at" 4 ["rows", "founder"] f_barred_at :=
  kn_mk (st := s_barred_at) (T.says.def_ 7 rfl) sc_barred_at T.glo_barred_at (fun _ _ _ _ _ _ us hl => match us, hl with | [_, _], _ => rfl) fun cdv A outer s H E hr hx => by
  have hp := owns_cx (P := P) (w := w) (K := K) (mg := mg) (base := base) (N := N_barred_at) (qual := "barred_at") (scope := defScope s_barred_at) (f := He.ga K "barred_at") (cdv := cdv) (A := A) (outer := outer) (s := s) (H := H) (E := E)
  exact (dss_cons (by first | exact ds_set (i := 2) sc_barred_at.nd rfl (by first | exact Or.inl rfl | exact Or.inr rfl) (de_lc (own := [("row", 5)]) (sl := [5]) rfl sc_barred_at.nd (di_any (de_var 0 (pv 0))) (blkOk_by (N := N_barred_at) (sc := defScope s_barred_at) (by decide +kernel)) (by decide) (fun _ _ _ _ _ => (dg_name (i := 5) sc_barred_at.nd rfl (by first | exact Or.inl rfl | exact Or.inr rfl))) (fun _ _ _ _ _ => dts_nil) (fun _ _ _ _ _ => (de_tup (da_cons de_str (da_cons (de_kn (kn_against T) (hr.mono (by decide)) (by rfl) passL (da_cons (de_var 5 (pv 5)) (da_cons (de_var 1 (pv 1)) da_nil)) (aCons_len (aCons_len aNil_len))) da_nil))))) | exact ds_setLc (i := 2) (own := [("row", 5)]) (sl := [5]) rfl sc_barred_at.nd rfl rfl (sw_true rfl rfl rfl (by decide +kernel)) (di_any (de_var 0 (pv 0))) (blkOk_by (N := N_barred_at) (sc := defScope s_barred_at) (by decide +kernel)) (by decide) (fun _ _ _ _ _ => (dg_name (i := 5) sc_barred_at.nd rfl (by first | exact Or.inl rfl | exact Or.inr rfl))) (fun _ _ _ _ _ => dts_nil) (fun _ _ _ _ _ => (de_tup (da_cons de_str (da_cons (de_kn (kn_against T) (hr.mono (by decide)) (by rfl) passL (da_cons (de_var 5 (pv 5)) (da_cons (de_var 1 (pv 1)) da_nil)) (aCons_len (aCons_len aNil_len))) da_nil)))))
    (dss_cons (ds_for hp rfl (di_any (de_kn (kn_pairs_of T) (hr.mono (by decide)) (by rfl) hx (da_cons (de_listRg1 rfl (by rfl) (T.free_list) (by rfl) (T.free_range) (de_callB call_lenA cd_len (by rfl) (T.free_len) (by decide +kernel) (da_cons (de_var 1 (pv 1)) da_nil))) da_nil) (aCons_len aNil_len))) (dg_tup rfl (dgs_cons (dg_name (i := 3) sc_barred_at.nd rfl (by first | exact Or.inl rfl | exact Or.inr rfl)) (dgs_cons (dg_name (i := 4) sc_barred_at.nd rfl (by first | exact Or.inl rfl | exact Or.inr rfl)) dgs_nil))) (dss_one (ds_fix [2] (ds_if (dt_val (de_kn (kn_has_all T) (hr.mono (by decide)) (by rfl) hx (da_cons (de_kn (kn_shown_by T) (hr.mono (by decide)) (by rfl) hx (da_cons (de_var 2 (pv 2)) (da_cons (de_var 3 (pv 3)) (da_cons (de_var 4 (pv 4)) da_nil))) (aCons_len (aCons_len (aCons_len aNil_len)))) da_nil) (aCons_len aNil_len))) (dss_one (ds_ret (de_tup (da_cons (de_var 3 (pv 3)) (da_cons (de_var 4 (pv 4)) da_nil))))) dss_nil))) (bTup_ne (bCons_ne bN_ne (bCons_ne bN_ne bNil_ne))))
    (dss_one (ds_ret de_non))))
theorem kn_is_borne (T : Tx K mg) : Knows P w K mg base "is_borne" 5 ["rows", "founder"] f_is_borne :=
  kn_mk (st := s_is_borne) (T.says.def_ 8 rfl) sc_is_borne T.glo_is_borne (fun _ _ _ _ _ _ us hl => match us, hl with | [_, _], _ => rfl) fun cdv A outer s H E hr hx => by
  have hp := owns_cx (P := P) (w := w) (K := K) (mg := mg) (base := base) (N := N_is_borne) (qual := "is_borne") (scope := defScope s_is_borne) (f := He.ga K "is_borne") (cdv := cdv) (A := A) (outer := outer) (s := s) (H := H) (E := E)
  exact (dss_one (ds_ret (de_cmp op_isN od_isN (de_kn (kn_barred_at T) (hr.mono (by decide)) (by rfl) hx (da_cons (de_var 0 (pv 0)) (da_cons (de_var 1 (pv 1)) da_nil)) (aCons_len (aCons_len aNil_len))) de_non (nomark _))))
theorem kn_law_whole (T : Tx K mg) : Knows P w K mg base "_law_whole" 1 ["_law_found"] f_law_whole :=
  kn_mk (st := s_law_whole) (T.says.def_ 9 rfl) sc_law_whole T.glo_law_whole (fun _ _ _ _ _ _ us hl => match us, hl with | [_], _ => rfl) fun cdv A outer s H E hr hx => by
  have hp := owns_cx (P := P) (w := w) (K := K) (mg := mg) (base := base) (N := N_law_whole) (qual := "_law_whole") (scope := defScope s_law_whole) (f := He.ga K "_law_whole") (cdv := cdv) (A := A) (outer := outer) (s := s) (H := H) (E := E)
  exact (dss_one (ds_ret (de_and (de_isi (by rfl) (T.free_isinstance) (by rfl) (T.free_int) (by decide +kernel) (de_var 0 (pv 0))) (de_one (de_not (de_isi (by rfl) (T.free_isinstance) (by rfl) (T.free_bool) (by decide +kernel) (de_var 0 (pv 0))))))))
theorem kn_law_against (T : Tx K mg) : Knows P w K mg base "_law_against" 1 ["_law_row_here", "_law_founder"] f_law_against :=
  kn_mk (st := s_law_against) (T.says.def_ 10 rfl) sc_law_against T.glo_law_against (fun _ _ _ _ _ _ us hl => match us, hl with | [_, _], _ => rfl) fun cdv A outer s H E hr hx => by
  have hp := owns_cx (P := P) (w := w) (K := K) (mg := mg) (base := base) (N := N_law_against) (qual := "_law_against") (scope := defScope s_law_against) (f := He.ga K "_law_against") (cdv := cdv) (A := A) (outer := outer) (s := s) (H := H) (E := E)
  exact (dss_cons (ds_set (i := 2) sc_law_against.nd rfl (by first | exact Or.inl rfl | exact Or.inr rfl) (de_lst da_nil))
    (dss_cons (ds_for hp rfl (di_rng1 (by rfl) (T.free_range) (da_cons (de_callB call_lenA cd_len (by rfl) (T.free_len) (by decide +kernel) (da_cons (de_var 1 (pv 1)) da_nil)) da_nil)) (dg_name (i := 3) sc_law_against.nd rfl (by first | exact Or.inl rfl | exact Or.inr rfl)) (dss_one (ds_if (dt_cmp (op_eqA hr.units) od_eq (de_ix (de_var 0 (pv 0)) (de_var 3 (pv 3)) (fun _ _ => rfl)) de_int (nomark _)) (dss_one (ds_mut (dm_mut PySem.F.slot_list_append PySem.F.type_list_append mt_append mut_append (pv 2) (da_cons de_int da_nil) (fun t ht => pe_bm PySem.F.plainAttrs_list PySem.F.slot_list_append PySem.F.type_list_append mt_append (pv 2) ht)))) (dss_one (ds_mut (dm_mut PySem.F.slot_list_append PySem.F.type_list_append mt_append mut_append (pv 2) (da_cons (de_if (dt_cmp (op_eqA hr.units) od_eq (de_ix (de_var 0 (pv 0)) (de_var 3 (pv 3)) (fun _ _ => rfl)) (de_ix (de_var 1 (pv 1)) (de_var 3 (pv 3)) (fun _ _ => rfl)) (nomark _)) de_int de_int) da_nil) (fun t ht => pe_bm PySem.F.plainAttrs_list PySem.F.slot_list_append PySem.F.type_list_append mt_append (pv 2) ht)))))) bN_ne)
    (dss_one (ds_fix [2] (ds_ret (de_callTy call_tuple_of cd_tuple (by rfl) (T.free_tuple) (by decide +kernel) (da_cons (de_var 2 (pv 2)) da_nil)))))))
theorem kn_law_first (T : Tx K mg) : Knows P w K mg base "_law_first" 2 ["_law_rows_here", "_law_base"] f_law_first :=
  kn_mk (st := s_law_first) (T.says.def_ 11 rfl) sc_law_first T.glo_law_first (fun _ _ _ _ _ _ us hl => match us, hl with | [_, _], _ => rfl) fun cdv A outer s H E hr hx => by
  have hp := owns_cx (P := P) (w := w) (K := K) (mg := mg) (base := base) (N := N_law_first) (qual := "_law_first") (scope := defScope s_law_first) (f := He.ga K "_law_first") (cdv := cdv) (A := A) (outer := outer) (s := s) (H := H) (E := E)
  exact (dss_cons (by first | exact ds_set (i := 2) sc_law_first.nd rfl (by first | exact Or.inl rfl | exact Or.inr rfl) (de_lc (own := [("_law_row_here", 5)]) (sl := [5]) rfl sc_law_first.nd (di_any (de_var 0 (pv 0))) (blkOk_by (N := N_law_first) (sc := defScope s_law_first) (by decide +kernel)) (by decide) (fun _ _ _ _ _ => (dg_name (i := 5) sc_law_first.nd rfl (by first | exact Or.inl rfl | exact Or.inr rfl))) (fun _ _ _ _ _ => dts_nil) (fun _ _ _ _ _ => (de_kn (kn_law_against T) (hr.mono (by decide)) (by rfl) passL (da_cons (de_var 5 (pv 5)) (da_cons (de_var 1 (pv 1)) da_nil)) (aCons_len (aCons_len aNil_len))))) | exact ds_setLc (i := 2) (own := [("_law_row_here", 5)]) (sl := [5]) rfl sc_law_first.nd rfl rfl (sw_true rfl rfl rfl (by decide +kernel)) (di_any (de_var 0 (pv 0))) (blkOk_by (N := N_law_first) (sc := defScope s_law_first) (by decide +kernel)) (by decide) (fun _ _ _ _ _ => (dg_name (i := 5) sc_law_first.nd rfl (by first | exact Or.inl rfl | exact Or.inr rfl))) (fun _ _ _ _ _ => dts_nil) (fun _ _ _ _ _ => (de_kn (kn_law_against T) (hr.mono (by decide)) (by rfl) passL (da_cons (de_var 5 (pv 5)) (da_cons (de_var 1 (pv 1)) da_nil)) (aCons_len (aCons_len aNil_len)))))
    (dss_cons (ds_for hp rfl (di_rng1 (by rfl) (T.free_range) (da_cons (de_callB call_lenA cd_len (by rfl) (T.free_len) (by decide +kernel) (da_cons (de_var 1 (pv 1)) da_nil)) da_nil)) (dg_name (i := 3) sc_law_first.nd rfl (by first | exact Or.inl rfl | exact Or.inr rfl)) (dss_one (ds_for hp rfl (di_rng2 (by rfl) (T.free_range) (da_cons (de_op op_addA od_add (de_var 3 (pv 3)) de_int) (da_cons (de_callB call_lenA cd_len (by rfl) (T.free_len) (by decide +kernel) (da_cons (de_var 1 (pv 1)) da_nil)) da_nil))) (dg_name (i := 4) sc_law_first.nd rfl (by first | exact Or.inl rfl | exact Or.inr rfl)) (dss_cons (ds_fix [2] (by first | exact ds_set (i := 6) sc_law_first.nd rfl (by first | exact Or.inl rfl | exact Or.inr rfl) (de_lc (own := [("_law_row_here", 5)]) (sl := [5]) rfl sc_law_first.nd (di_any (de_var 2 (pv 2))) (blkOk_by (N := N_law_first) (sc := defScope s_law_first) (by decide +kernel)) (by decide) (fun _ _ _ _ _ => (dg_name (i := 5) sc_law_first.nd rfl (by first | exact Or.inl rfl | exact Or.inr rfl))) (fun _ _ _ _ _ => dts_nil) (fun _ _ _ _ _ => (de_tup (da_cons (de_ix (de_var 5 (pv 5)) (de_var 3 (pv 3)) (fun _ _ => rfl)) (da_cons (de_ix (de_var 5 (pv 5)) (de_var 4 (pv 4)) (fun _ _ => rfl)) da_nil))))) | exact ds_setLc (i := 6) (own := [("_law_row_here", 5)]) (sl := [5]) rfl sc_law_first.nd rfl rfl (sw_true rfl rfl rfl (by decide +kernel)) (di_any (de_var 2 (pv 2))) (blkOk_by (N := N_law_first) (sc := defScope s_law_first) (by decide +kernel)) (by decide) (fun _ _ _ _ _ => (dg_name (i := 5) sc_law_first.nd rfl (by first | exact Or.inl rfl | exact Or.inr rfl))) (fun _ _ _ _ _ => dts_nil) (fun _ _ _ _ _ => (de_tup (da_cons (de_ix (de_var 5 (pv 5)) (de_var 3 (pv 3)) (fun _ _ => rfl)) (da_cons (de_ix (de_var 5 (pv 5)) (de_var 4 (pv 4)) (fun _ _ => rfl)) da_nil))))))
    (dss_one (ds_fix [6] (ds_if (DW.dt (dw_and (dt_cmp (op_inA (room65 hr)) od_in (de_tup (da_cons de_int (da_cons de_int da_nil))) (de_var 6 (pv 6)) (by first | rfl | with_unfolding_all rfl)) (dw_and (dt_cmp (op_inA (room65 hr)) od_in (de_tup (da_cons de_int (da_cons de_int da_nil))) (de_var 6 (pv 6)) (by first | rfl | with_unfolding_all rfl)) (dw_and1 (dt_cmp (op_inA (room65 hr)) od_in (de_tup (da_cons de_int (da_cons de_int da_nil))) (de_var 6 (pv 6)) (by first | rfl | with_unfolding_all rfl)))))) (dss_one (ds_ret (de_tup (da_cons (de_var 3 (pv 3)) (da_cons (de_var 4 (pv 4)) da_nil))))) dss_nil)))) bN_ne)) bN_ne)
    (dss_one (ds_ret de_non))))
theorem kn_law_row (T : Tx K mg) : Knows P w K mg base "_law_row" 1 ["_law_cell_here", "_law_many", "_law_size"] f_law_row :=
  kn_mk (st := s_law_row) (T.says.def_ 12 rfl) sc_law_row T.glo_law_row (fun _ _ _ _ _ _ us hl => match us, hl with | [_, _, _], _ => rfl) fun cdv A outer s H E hr hx => by
  have hp := owns_cx (P := P) (w := w) (K := K) (mg := mg) (base := base) (N := N_law_row) (qual := "_law_row") (scope := defScope s_law_row) (f := He.ga K "_law_row") (cdv := cdv) (A := A) (outer := outer) (s := s) (H := H) (E := E)
  exact (dss_cons (ds_set (i := 3) sc_law_row.nd rfl (by first | exact Or.inl rfl | exact Or.inr rfl) (de_lst da_nil))
    (dss_cons (ds_if (dt_cmp (op_cmpA (op := .GtE) rfl hr.units) od_cmp (de_var 0 (pv 0)) (de_op op_pow od_pow de_int de_int) (nomark _)) (dss_cons (ds_set (i := 6) sc_law_row.nd rfl (by first | exact Or.inl rfl | exact Or.inr rfl) (de_op op_sub od_sub (de_var 0 (pv 0)) (de_op op_pow od_pow de_int de_int)))
    (dss_cons (ds_for hp rfl (di_rng1 (by rfl) (T.free_range) (da_cons (de_var 1 (pv 1)) da_nil)) (dg_name (i := 5) sc_law_row.nd rfl (by first | exact Or.inl rfl | exact Or.inr rfl)) (dss_cons (ds_mut (dm_mut PySem.F.slot_list_append PySem.F.type_list_append mt_append mut_append (pv 3) (da_cons (de_op op_mod od_mod (de_var 6 (pv 6)) (de_var 2 (pv 2))) da_nil) (fun t ht => pe_bm PySem.F.plainAttrs_list PySem.F.slot_list_append PySem.F.type_list_append mt_append (pv 3) ht)))
    (dss_one (ds_set (i := 6) sc_law_row.nd rfl (by first | exact Or.inl rfl | exact Or.inr rfl) (de_op op_fdivW od_div (de_var 6 (pv 6)) (de_var 2 (pv 2)))))) bN_ne)
    (dss_one (ds_retV 3 (pv 3))))) dss_nil)
    (dss_cons (ds_set (i := 4) sc_law_row.nd rfl (by first | exact Or.inl rfl | exact Or.inr rfl) (de_op op_mod od_mod (de_var 0 (pv 0)) de_int))
    (dss_cons (ds_for hp rfl (di_rng1 (by rfl) (T.free_range) (da_cons (de_var 1 (pv 1)) da_nil)) (dg_name (i := 5) sc_law_row.nd rfl (by first | exact Or.inl rfl | exact Or.inr rfl)) (dss_cons (ds_set (i := 4) sc_law_row.nd rfl (by first | exact Or.inl rfl | exact Or.inr rfl) (de_op op_mod od_mod (de_op op_addA od_add (de_op op_addA od_add (de_op op_mulA od_mul (de_var 4 (pv 4)) de_int) de_int) (de_var 5 (pv 5))) de_int))
    (dss_cons (ds_set (i := 7) sc_law_row.nd rfl (by first | exact Or.inl rfl | exact Or.inr rfl) (de_op op_mod od_mod (de_op op_fdivW od_div (de_op op_mulA od_mul (de_var 4 (pv 4)) (de_op op_addA od_add (de_op op_mod od_mod (de_var 4 (pv 4)) de_int) de_int)) de_int) de_int))
    (dss_one (ds_mut (dm_mut PySem.F.slot_list_append PySem.F.type_list_append mt_append mut_append (pv 3) (da_cons (de_op op_mod od_mod (de_var 7 (pv 7)) (de_var 2 (pv 2))) da_nil) (fun t ht => pe_bm PySem.F.plainAttrs_list PySem.F.slot_list_append PySem.F.type_list_append mt_append (pv 3) ht)))))) bN_ne)
    (dss_one (ds_retV 3 (pv 3)))))))
theorem kn_law_cell (T : Tx K mg) : Knows P w K mg base "_law_cell" 1 ["_law_script", "_law_at"] f_law_cell :=
  kn_mk (st := s_law_cell) (T.says.def_ 13 rfl) sc_law_cell T.glo_law_cell (fun _ _ _ _ _ _ us hl => match us, hl with | [_, _], _ => rfl) fun cdv A outer s H E hr hx => by
  have hp := owns_cx (P := P) (w := w) (K := K) (mg := mg) (base := base) (N := N_law_cell) (qual := "_law_cell") (scope := defScope s_law_cell) (f := He.ga K "_law_cell") (cdv := cdv) (A := A) (outer := outer) (s := s) (H := H) (E := E)
  exact (dss_cons (ds_if (dt_cmp (op_cmpA (op := .Lt) rfl hr.units) od_cmp (de_var 1 (pv 1)) (de_callB call_lenA cd_len (by rfl) (T.free_len) (by decide +kernel) (da_cons (de_var 0 (pv 0)) da_nil)) (nomark _)) (dss_one (ds_ret (de_ix (de_var 0 (pv 0)) (de_var 1 (pv 1)) (fun _ _ => rfl)))) dss_nil)
    (dss_one (ds_ret de_int)))
theorem kn_law_flip (T : Tx K mg) : Knows P w K mg base "_law_flip" 1 ["_law_row_here", "_law_at"] f_law_flip :=
  kn_mk (st := s_law_flip) (T.says.def_ 14 rfl) sc_law_flip T.glo_law_flip (fun _ _ _ _ _ _ us hl => match us, hl with | [_, _], _ => rfl) fun cdv A outer s H E hr hx => by
  have hp := owns_cx (P := P) (w := w) (K := K) (mg := mg) (base := base) (N := N_law_flip) (qual := "_law_flip") (scope := defScope s_law_flip) (f := He.ga K "_law_flip") (cdv := cdv) (A := A) (outer := outer) (s := s) (H := H) (E := E)
  exact (dss_one (ds_ret (de_op op_addA od_add (de_op op_addA od_add (de_sl (de_var 0 (pv 0)) do_none (do_some (de_var 1 (pv 1)))) (de_tup (da_cons (de_op op_sub od_sub de_int (de_ix (de_var 0 (pv 0)) (de_var 1 (pv 1)) (fun _ _ => rfl))) da_nil))) (de_sl (de_var 0 (pv 0)) (do_some (de_op op_addA od_add (de_var 1 (pv 1)) de_int)) do_none))))
theorem kn_law_grown (T : Tx K mg) : Knows P w K mg base "_law_grown" 2 ["_law_founder", "_law_cell_here"] f_law_grown :=
  kn_mk (st := s_law_grown) (T.says.def_ 15 rfl) sc_law_grown T.glo_law_grown (fun _ _ _ _ _ _ us hl => match us, hl with | [_, _], _ => rfl) fun cdv A outer s H E hr hx => by
  have hp := owns_cx (P := P) (w := w) (K := K) (mg := mg) (base := base) (N := N_law_grown) (qual := "_law_grown") (scope := defScope s_law_grown) (f := He.ga K "_law_grown") (cdv := cdv) (A := A) (outer := outer) (s := s) (H := H) (E := E)
  exact (dss_cons (ds_set (i := 2) sc_law_grown.nd rfl (by first | exact Or.inl rfl | exact Or.inr rfl) (de_lst (da_cons (de_var 0 (pv 0)) da_nil)))
    (dss_cons (ds_set (i := 3) sc_law_grown.nd rfl (by first | exact Or.inl rfl | exact Or.inr rfl) (de_listRg1 rfl (by rfl) (T.free_list) (by rfl) (T.free_range) (de_callB call_lenA cd_len (by rfl) (T.free_len) (by decide +kernel) (da_cons (de_var 0 (pv 0)) da_nil))))
    (dss_cons (ds_for hp rfl (di_any (de_kn (kn_law_row T) (hr.mono (by decide)) (by rfl) hx (da_cons (de_var 1 (pv 1)) (da_cons (de_callB call_lenA cd_len (by rfl) (T.free_len) (by decide +kernel) (da_cons (de_var 0 (pv 0)) da_nil)) (da_cons de_int da_nil))) (aCons_len (aCons_len (aCons_len aNil_len))))) (dg_name (i := 4) sc_law_grown.nd rfl (by first | exact Or.inl rfl | exact Or.inr rfl)) (dss_cons (ds_mutA (i := 5) sc_law_grown.nd rfl (by first | exact Or.inl rfl | exact Or.inr rfl) (dm_mut PySem.F.slot_list_pop PySem.F.type_list_pop mt_popAt mut_popAt (pv 3) (da_cons (de_pub (de_op op_mod od_mod (de_var 4 (pv 4)) (de_callB call_lenA cd_len (by rfl) (T.free_len) (by decide +kernel) (da_cons (de_var 3 (pv 3)) da_nil)))) da_nil) (fun t ht => pe_bm PySem.F.plainAttrs_list PySem.F.slot_list_pop PySem.F.type_list_pop mt_popAt (pv 3) ht)))
    (dss_cons (ds_if (dt_cmp (op_eqA hr.units) od_eq (de_op op_mod od_mod (de_op op_fdivW od_div (de_var 4 (pv 4)) de_int) de_int) de_int (nomark _)) (dss_one ds_continue) dss_nil)
    (dss_one (ds_if (dt_pub (DW.dt (dw_and (dt_cmp (op_eqA hr.units) od_eq (de_op op_mod od_mod (de_op op_fdivW od_div (de_var 4 (pv 4)) de_int) de_int) de_int (nomark _)) (dw_and1 (dt_cmp (op_cmpA (op := .Gt) rfl hr.units) od_cmp (de_callB call_lenA cd_len (by rfl) (T.free_len) (by decide +kernel) (da_cons (de_var 2 (pv 2)) da_nil)) de_int (nomark _)))))) (dss_one (ds_mut (dm_mutM mut_append (dam_one (dm_kn (kn_law_flip T) (hr.mono (by decide)) (by rfl) hx (dam_cons (dm_mut0 mut_pop (pe_bm0 PySem.F.plainAttrs_list PySem.F.slot_list_pop PySem.F.type_list_pop mt_pop (pv 2))) (da_cons (de_var 5 (pv 5)) da_nil)) (amCons_len (aCons_len aNil_len)))) (fun t ht => pe_bm PySem.F.plainAttrs_list PySem.F.slot_list_append PySem.F.type_list_append mt_append (pv 2) ht)))) (dss_one (ds_mut (dm_mut PySem.F.slot_list_append PySem.F.type_list_append mt_append mut_append (pv 2) (da_cons (de_pub (de_kn (kn_law_flip T) (hr.mono (by decide)) (by rfl) hx (da_cons (de_ix (de_var 2 (pv 2)) (de_op op_mod od_mod (de_op op_fdivW od_div (de_var 4 (pv 4)) de_int) (de_callB call_lenA cd_len (by rfl) (T.free_len) (by decide +kernel) (da_cons (de_var 2 (pv 2)) da_nil))) (fun _ _ => rfl)) (da_cons (de_var 5 (pv 5)) da_nil)) (aCons_len (aCons_len aNil_len)))) da_nil) (fun t ht => pe_bm PySem.F.plainAttrs_list PySem.F.slot_list_append PySem.F.type_list_append mt_append (pv 2) ht)))))))) bN_ne)
    (dss_one (ds_retV 2 (pv 2))))))
theorem kn_law_rows (T : Tx K mg) : Knows P w K mg base "_law_rows" 3 ["_law_script", "_law_base"] f_law_rows :=
  kn_mk (st := s_law_rows) (T.says.def_ 16 rfl) sc_law_rows T.glo_law_rows (fun _ _ _ _ _ _ us hl => match us, hl with | [_, _], _ => rfl) fun cdv A outer s H E hr hx => by
  have hp := owns_cx (P := P) (w := w) (K := K) (mg := mg) (base := base) (N := N_law_rows) (qual := "_law_rows") (scope := defScope s_law_rows) (f := He.ga K "_law_rows") (cdv := cdv) (A := A) (outer := outer) (s := s) (H := H) (E := E)
  exact (dss_cons (ds_set (i := 2) sc_law_rows.nd rfl (by first | exact Or.inl rfl | exact Or.inr rfl) (de_kn (kn_law_cell T) (hr.mono (by decide)) (by rfl) hx (da_cons (de_var 0 (pv 0)) (da_cons de_int da_nil)) (aCons_len (aCons_len aNil_len))))
    (dss_cons (ds_set (i := 3) sc_law_rows.nd rfl (by first | exact Or.inl rfl | exact Or.inr rfl) (de_callB call_lenA cd_len (by rfl) (T.free_len) (by decide +kernel) (da_cons (de_var 1 (pv 1)) da_nil)))
    (dss_cons (ds_if (dt_cmp (op_eqA hr.units) od_eq (de_op op_mod od_mod (de_op op_fdivW od_div (de_var 2 (pv 2)) de_int) de_int) de_int (nomark _)) (dss_one (ds_ret (de_lc (own := [("_law_k", 8)]) (sl := [8]) rfl sc_law_rows.nd (di_rng1 (by rfl) (T.free_range) (da_cons (de_op op_mod od_mod (de_op op_fdivW od_div (de_var 2 (pv 2)) de_int) de_int) da_nil)) (blkOk_by (N := N_law_rows) (sc := defScope s_law_rows) (by decide +kernel)) (by decide) (fun _ _ _ _ _ => (dg_name (i := 8) sc_law_rows.nd rfl (by first | exact Or.inl rfl | exact Or.inr rfl))) (fun _ _ _ _ _ => dts_nil) (fun _ _ _ _ _ => (de_callTy call_tuple_of cd_tuple (by rfl) (T.free_tuple) (by decide +kernel) (da_cons (de_kn (kn_law_row T) (hr.mono (by decide)) (by rfl) passL (da_cons (de_op op_addA od_add (de_kn (kn_law_cell T) (hr.mono (by decide)) (by rfl) passL (da_cons (de_var 0 (pv 0)) (da_cons de_int da_nil)) (aCons_len (aCons_len aNil_len))) (de_var 8 (pv 8))) (da_cons (de_var 3 (pv 3)) (da_cons de_int da_nil))) (aCons_len (aCons_len (aCons_len aNil_len)))) da_nil)))))) dss_nil)
    (dss_cons (ds_set (i := 4) sc_law_rows.nd rfl (by first | exact Or.inl rfl | exact Or.inr rfl) (de_kn (kn_law_grown T) (hr.mono (by decide)) (by rfl) hx (da_cons (de_var 1 (pv 1)) (da_cons (de_kn (kn_law_cell T) (hr.mono (by decide)) (by rfl) hx (da_cons (de_var 0 (pv 0)) (da_cons de_int da_nil)) (aCons_len (aCons_len aNil_len))) da_nil)) (aCons_len (aCons_len aNil_len))))
    (dss_cons (ds_set (i := 5) sc_law_rows.nd rfl (by first | exact Or.inl rfl | exact Or.inr rfl) (de_lst da_nil))
    (dss_cons (ds_for hp rfl (di_any (de_kn (kn_law_row T) (hr.mono (by decide)) (by rfl) hx (da_cons (de_kn (kn_law_cell T) (hr.mono (by decide)) (by rfl) hx (da_cons (de_var 0 (pv 0)) (da_cons de_int da_nil)) (aCons_len (aCons_len aNil_len))) (da_cons (de_op op_mod od_mod (de_op op_fdivW od_div (de_var 2 (pv 2)) de_int) de_int) (da_cons de_int da_nil))) (aCons_len (aCons_len (aCons_len aNil_len))))) (dg_name (i := 6) sc_law_rows.nd rfl (by first | exact Or.inl rfl | exact Or.inr rfl)) (dss_cons (ds_fix [4] (ds_set (i := 7) sc_law_rows.nd rfl (by first | exact Or.inl rfl | exact Or.inr rfl) (de_ix (de_var 4 (pv 4)) (de_op op_mod od_mod (de_var 6 (pv 6)) (de_callB call_lenA cd_len (by rfl) (T.free_len) (by decide +kernel) (da_cons (de_var 4 (pv 4)) da_nil))) (fun _ _ => rfl))))
    (dss_cons (ds_if (DW.dt (dw_and (dt_cmp (op_eqA hr.units) od_eq (de_op op_mod od_mod (de_op op_fdivW od_div (de_var 2 (pv 2)) de_int) de_int) de_int (nomark _)) (dw_and1 (dt_cmp (op_eqA hr.units) od_eq (de_op op_mod od_mod (de_op op_fdivW od_div (de_var 6 (pv 6)) de_int) de_int) de_int (nomark _))))) (dss_one (ds_set (i := 7) sc_law_rows.nd rfl (by first | exact Or.inl rfl | exact Or.inr rfl) (de_kn (kn_law_flip T) (hr.mono (by decide)) (by rfl) hx (da_cons (de_var 7 (pv 7)) (da_cons (de_op op_mod od_mod (de_op op_fdivW od_div (de_var 6 (pv 6)) de_int) (de_var 3 (pv 3))) da_nil)) (aCons_len (aCons_len aNil_len))))) dss_nil)
    (dss_one (ds_mut (dm_mut PySem.F.slot_list_append PySem.F.type_list_append mt_append mut_append (pv 5) (da_cons (de_var 7 (pv 7)) da_nil) (fun t ht => pe_bm PySem.F.plainAttrs_list PySem.F.slot_list_append PySem.F.type_list_append mt_append (pv 5) ht)))))) bN_ne)
    (dss_one (ds_retV 5 (pv 5)))))))))
theorem d_law (T : Tx K mg) {f : Addr} (cdv : Value) (A : Around) (outer : List PySem.Env) (s : Shared) (H : Hp) (E : XK) (hr : Room 5 (A.deeper (envOfC "law" (defScope s_law_k06) s.heap.objs.size f cdv))) :
    DSs (cxOf CX0 P w K mg base N_law_k06 "law" (defScope s_law_k06) f cdv A outer s H E).nox E0 (defBody s_law_k06) o_law_k06 := by
  have hp := PassesOwn.never (M := model P w) (A := (cxOf CX0 P w K mg base N_law_k06 "law" (defScope s_law_k06) f cdv A outer s H E).nox.A) (env := (cxOf CX0 P w K mg base N_law_k06 "law" (defScope s_law_k06) f cdv A outer s H E).nox.env)
  have hx := passL (X := (cxOf CX0 P w K mg base N_law_k06 "law" (defScope s_law_k06) f cdv A outer s H E).nox)
  exact (dss_cons (ds_set (i := 1) sc_law_k06.nd rfl (by first | exact Or.inl rfl | exact Or.inr rfl) (de_kn (kn_law_cell T) (hr.mono (by decide)) (by rfl) hx (da_cons (de_var 0 (pv 0)) (da_cons de_int da_nil)) (aCons_len (aCons_len aNil_len))))
    (dss_cons (ds_set (i := 2) sc_law_k06.nd rfl (by first | exact Or.inl rfl | exact Or.inr rfl) (de_callTy call_tuple_of cd_tuple (by rfl) (T.free_tuple) (by decide +kernel) (da_cons (de_kn (kn_law_row T) (hr.mono (by decide)) (by rfl) hx (da_cons (de_kn (kn_law_cell T) (hr.mono (by decide)) (by rfl) hx (da_cons (de_var 0 (pv 0)) (da_cons de_int da_nil)) (aCons_len (aCons_len aNil_len))) (da_cons (de_op op_addA od_add de_int (de_op op_mod od_mod (de_var 1 (pv 1)) de_int)) (da_cons de_int da_nil))) (aCons_len (aCons_len (aCons_len aNil_len)))) da_nil)))
    (dss_cons (ds_set (i := 3) sc_law_k06.nd rfl (by first | exact Or.inl rfl | exact Or.inr rfl) (de_kn (kn_law_rows T) (hr.mono (by decide)) (by rfl) hx (da_cons (de_var 0 (pv 0)) (da_cons (de_var 2 (pv 2)) da_nil)) (aCons_len (aCons_len aNil_len))))
    (dss_cons (ds_fix [3] (ds_set (i := 4) sc_law_k06.nd rfl (by first | exact Or.inl rfl | exact Or.inr rfl) (de_kn (kn_law_first T) (hr.mono (by decide)) (by rfl) hx (da_cons (de_var 3 (pv 3)) (da_cons (de_var 2 (pv 2)) da_nil)) (aCons_len (aCons_len aNil_len)))))
    (dss_cons (ds_fix [3] (ds_set (i := 5) sc_law_k06.nd rfl (by first | exact Or.inl rfl | exact Or.inr rfl) (de_callTy call_list_of cd_list (by rfl) (T.free_list) (by decide +kernel) (da_cons (de_var 3 (pv 3)) da_nil))))
    (dss_cons (ds_fix [5] (ds_set (i := 6) sc_law_k06.nd rfl (by first | exact Or.inl rfl | exact Or.inr rfl) (de_kn (kn_barred_at T) (hr.mono (by decide)) (by rfl) hx (da_cons (de_var 5 (pv 5)) (da_cons (de_var 2 (pv 2)) da_nil)) (aCons_len (aCons_len aNil_len)))))
    (dss_cons (ds_if (DW.dt (dw_and (dt_cmp op_isN od_isN (de_var 4 (pv 4)) de_non (nomark _)) (dw_and1 (dt_cmp op_notN od_notN (de_var 6 (pv 6)) de_non (nomark _))))) (dss_one (ds_ret de_bl)) dss_nil)
    (dss_cons (ds_if (dt_cmp op_notN od_notN (de_var 4 (pv 4)) de_non (nomark _)) (dss_cons (ds_if (DW.dt (dw_or (dt_not (dt_val (de_isi (by rfl) (T.free_isinstance) (by rfl) (T.free_tuple) (by decide +kernel) (de_var 6 (pv 6))))) (dw_or1 (dt_cmp (op_neA hr.units) od_ne (de_var 6 (pv 6)) (de_var 4 (pv 4)) (nomark _))))) (dss_one (ds_ret de_bl)) dss_nil)
    (dss_one (ds_if (DW.dt (dw_or (dt_not (dt_val (de_kn (kn_law_whole T) (hr.mono (by decide)) (by rfl) hx (da_cons (de_ix (de_var 6 (pv 6)) de_int (fun _ _ => rfl)) da_nil) (aCons_len aNil_len)))) (dw_or1 (dt_not (dt_val (de_kn (kn_law_whole T) (hr.mono (by decide)) (by rfl) hx (da_cons (de_ix (de_var 6 (pv 6)) de_int (fun _ _ => rfl)) da_nil) (aCons_len aNil_len))))))) (dss_one (ds_ret de_bl)) dss_nil))) dss_nil)
    (dss_cons (ds_fix [5] (ds_set (i := 7) sc_law_k06.nd rfl (by first | exact Or.inl rfl | exact Or.inr rfl) (de_kn (kn_is_borne T) (hr.mono (by decide)) (by rfl) hx (da_cons (de_var 5 (pv 5)) (da_cons (de_var 2 (pv 2)) da_nil)) (aCons_len (aCons_len aNil_len)))))
    (dss_cons (ds_fix [3, 5] (ds_if (DW.dt (dw_or (dt_not (dt_val (de_isi (by rfl) (T.free_isinstance) (by rfl) (T.free_bool) (by decide +kernel) (de_var 7 (pv 7))))) (dw_or (dt_cmp (op_neA hr.units) od_ne (de_var 7 (pv 7)) (de_cmp op_isN od_isN (de_var 4 (pv 4)) de_non (nomark _)) (nomark _)) (dw_or1 (dt_cmp (op_neA hr.units) od_ne (de_var 5 (pv 5)) (de_var 3 (pv 3)) (nomark _)))))) (dss_one (ds_ret de_bl)) dss_nil))
    (dss_one (ds_fix [3] (ds_ret (de_cmp (op_eqA hr.units) od_eq (de_kn (kn_is_borne T) (hr.mono (by decide)) (by rfl) hx (da_cons (de_lstRev rfl (by rfl) (T.free_list) (by rfl) (T.free_reversed) (de_var 3 (pv 3))) (da_cons (de_var 2 (pv 2)) da_nil)) (aCons_len (aCons_len aNil_len))) (de_var 7 (pv 7)) (nomark _)))))))))))))))
abbrev Rw : PySem.W.OpenRow := PySem.W.OpenLaw.row PySem.Challenge.rw_unmix_k06_bars_among_rows
abbrev hkw : PySem.W.Hook := hookC 6 fcs fns exC
def obw (s : PySem.W.SharedT) : AlC := obsC 6 fcs fns exC (HandSHeadRun.getT s)
theorem obw_eq (s : PySem.W.SharedT) : obw s = hkw.obs s.abs := obsC_eq (HandSHeadRun.getT_eq s)
theorem run (w : World) : HandSHeadRun.RunEq Rw (PySem.W.view Rw.prog [21]) hkw obw 8000 lnames w := by
  intro os
  kernel_rfl
/-- the promise of the law's def -/
def spL (K : PySem.W.Frag) : Sp := fun vs H Q _ => spD K 1 f_law_k06 vs H Q E0
theorem facts {P : Program} {w : World} {K : PySem.W.Frag} {h : Heap} {mg : Str → Option Value} {f : Addr} (X : K.In h) (G : h.Ns mainGlobals mg) (hfa : mg ("law" : Str) = some (.ref f)) (c : He.SaysD fcs fns K) (c2 : exC K = true) :
    ∃ fd : FuncData, (∀ (s : Shared) (v : Value), BindsTo s fd ⟨[v], []⟩ [("_law_script", v)]) ∧ ∀ base : Heap, K.In base → base.Ns mainGlobals mg → FnOk P w K mg base CX0 6 f fd ["_law_script"] (spL K) := by
  have T : Tx K mg := ⟨c, c2, h, X, G⟩
  obtain ⟨fd, F⟩ := c.def_ 17 (d := dd "law" s_law_k06) rfl
  have e := hfa.symm.trans T.glo_law
  cases e
  have b := FunD.bindsA (ps := ["_law_script"]) F fun _ _ _ _ _ _ us hl => match us, hl with | [_], _ => rfl
  exact ⟨fd, fun s v => b s [v] rfl, fun base _ _ => law_mk (N := N_law_k06) (ps := ["_law_script"]) F sc_law_k06 fun cdv A outer s H E hr => d_law T cdv A outer s H E hr⟩
/-- the law by data -/
def Good : Prop := ∀ ns : List Int, ns.length ≤ 63 → f_law_k06 [.dict [(.none, .list (ns.map PyData.int))]] = .ok (.dat (.bool true))
theorem good_sp (hgood : Good) {K : PySem.W.Frag} {H : Hp} {a : Addr} {ns : List Int} (hl : ns.length ≤ 63) (hS : SqL K H a (ns.map V.int)) : spL K [.ref a] H (fun v _ => v = .bl true) fun _ _ _ => False := by
  refine ⟨rfl, _, H, .refl H, .cons (.scr hS) .nil, ?_⟩
  rw [hgood ns hl]
  intro v B' H' g r
  cases r
  rfl
end Dl
open PySem PySem.W PySem.Calls PyProof.Rows
set_option maxHeartbeats 0 in
theorem Dl.law_holds (hgood : Dl.Good) : PySem.Challenge.rw_unmix_k06_bars_among_rows.Holds := by
  w_on; o_law
  refine HandSHeadRun.head_any (r := OpenLaw.row PySem.Challenge.rw_unmix_k06_bars_among_rows) (q := view (OpenLaw.row PySem.Challenge.rw_unmix_k06_bars_among_rows).prog [21]) (H := Dl.hkw) (ob := Dl.obw) (M := 8000) (loose := Dl.lnames) (d := HandSHeadRun.topDef (OpenLaw.row PySem.Challenge.rw_unmix_k06_bars_among_rows).prog 21) (kwd := []) Dl.obw_eq
    (by kernel_rfl) (fun s => by kernel_rfl) Dl.run (by kernel_rfl) (by kernel_rfl) (by kernel_rfl) (by rfl) (by first | assumption | decide +kernel) (by decide +kernel) ⟨rfl, rfl, rfl, rfl, rfl, by decide +kernel⟩ ?hw ?hc
  case hw => w_witness2
  case hc =>
    refine L2.walk_ofE (l := PySem.Challenge.rw_unmix_k06_bars_among_rows) (n := 63) (k := 6) (x := "_law_script") (CX := L2.CX0) rfl (by decide) (by kernel_rfl) ⟨rfl, by decide, by decide⟩ ?F (fun _ _ _ _ z => z)
    intro w mg fa h Y G hmg0
    obtain ⟨K, KX, c, c2⟩ := Y
    have hmg : mg ("law" : PySem.Str) = some (.ref fa) := by
      have e : (HandSHeadRun.topDef (OpenLaw.row PySem.Challenge.rw_unmix_k06_bars_among_rows).prog 21).name = ("law" : PySem.Str) := by kernel_rfl
      rw [← e]
      exact hmg0
    obtain ⟨fd, hb, hF⟩ := Dl.facts (P := (PySem.Challenge.rw_unmix_k06_bars_among_rows).prog) (w := w) KX G hmg c c2
    exact ⟨K, fd, Dl.spL K, KX, hb, fun H a ns hl _ hS => Dl.good_sp hgood hl hS, hF⟩
theorem PySem.Challenge.cw_unmix_k06_bars_among_rows_holds : PySem.Challenge.rw_unmix_k06_bars_among_rows.Holds := by
  exact Dl.law_holds fun ns _ => Dl.good ns
