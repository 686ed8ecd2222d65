import PyProof.Rows.All
import Wide.All
import OpenK.AllK
import Wide.FinOn
import HandS.ForMost
import HandS.ForExc
import HandS.Walk
import HandS.Zip
import HandS.Defaults
import HandS.HeadHook1
import HandS.HeadHook2
import KE.GoesEnum
import KE.GoesMore
import HandS.RevRange
import HandS.Rev
import HandS.TupAny
import HandS.TupLe
import HandS.Wide
import HandS.Deep
import HandS.IsInst
import HandS.Conv
import HandS.Dict
import HandS.Head0
import HandS.Head1
import HandS.Head2
import HandS.HeadEnd
import HandS.RevTup
import KE.SortData
import HandS.SortInts
import HandS.ExcOwn
import HandS.WordsExc
import HandS.CallSlots
import HandS.TryOnly
import HandS.TryMany
import HandS.ExcIs
import HandS.More
import HandS.DictTup
import KE.KDictCopyH
import HandS.HeadHook3
import HandS.TupSets
import KE.DataMinMax
import KE.KDictOf
import KE.KDictWalk
import PySem.Challenge.RW_unmix_k23_nodes_and_ways_between
set_option Elab.async false
set_option linter.all false
set_option maxRecDepth 100000
set_option maxHeartbeats 4000000
/-! The data layer: a def's body read as a function from data to data. -/
namespace Dl
open PySem PySem.Spec PyProof.Rows L2
/-- what a piece of code does with data: stuck (nothing is claimed), an exception of the class named x, a value -/
inductive M (α : Type) where
  | stuck
  | exc (x : Str)
  | ok (a : α)
def M.bind {α β : Type} : M α → (α → M β) → M β
  | .stuck, _ => .stuck
  | .exc x, _ => .exc x
  | .ok a, f => f a
@[simp] theorem bind_ok {α β : Type} (a : α) (f : α → M β) : (M.ok a).bind f = f a := rfl
@[simp] theorem bind_exc {α β : Type} (x : Str) (f : α → M β) : (M.exc x : M α).bind f = .exc x := rfl
@[simp] theorem bind_stuck {α β : Type} (f : α → M β) : (M.stuck : M α).bind f = .stuck := rfl
def keyD : Key → PyData
  | .inl i => .int i
  | .inr x => .str x
/-! ### what stands for what -/
mutual
/-- the value v is the data d in the heap H -/
inductive R (K : PySem.W.Frag) (H : Hp) : V → PyData → Prop
  | non : R K H .non .none
  | bl (b : Bool) : R K H (.bl b) (.bool b)
  | int (i : Int) : R K H (.int i) (.int i)
  | str (x : Str) : R K H (.str x) (.str x)
  | lst {a : Addr} {xs : List V} {ds : List PyData} : H a = some (.lst xs) → RA K H xs ds → R K H (.ref a) (.list ds)
  | tup {a : Addr} {xs : List V} {ds : List PyData} : H a = some (.tup xs) → RA K H xs ds → R K H (.ref a) (.tuple ds)
  | tupF {a : Addr} {xs : List V} {ds : List PyData} : (∀ G : Hp, SqT K G a xs) → RA K H xs ds → R K H (.ref a) (.dict [(.bool false, .tuple ds)])
  | dK {a : Addr} {kvs : List (Key × V)} {vs : List PyData} : H a = some (.dK kvs) → RA K H (kvs.map (·.2)) vs → R K H (.ref a) (.dict ((kvs.map fun p => keyD p.1).zip vs))
  | dT {a : Addr} {kvs : List (List Key × V)} {vs : List PyData} : H a = some (.dT kvs) → RA K H (kvs.map (·.2)) vs → R K H (.ref a) (.dict ((PyData.bool true, PyData.none) :: (kvs.map fun p => PyData.tuple (p.1.map keyD)).zip vs))
  | ins {a dx : Addr} {x : Str} {fs : List (Str × V)} {vs : List PyData} : H a = some (.ins (He.ga K x) dx fs) → RA K H (fs.map (·.2)) vs → R K H (.ref a) (.dict ((.none, .str x) :: (fs.map fun p => PyData.str p.1).zip vs))
  | scr {a : Addr} {ns : List Int} : SqL K H a (ns.map V.int) → R K H (.ref a) (.dict [(.none, .list (ns.map .int))])
inductive RA (K : PySem.W.Frag) (H : Hp) : List V → List PyData → Prop
  | nil : RA K H [] []
  | cons {v : V} {vs : List V} {d : PyData} {ds : List PyData} : R K H v d → RA K H vs ds → RA K H (v :: vs) (d :: ds)
end
def Ex (H H' : Hp) : Prop := ∀ a o, H a = some o → H' a = some o
theorem Ex.refl (H : Hp) : Ex H H := fun _ _ h => h
theorem Ex.trans {H H1 H2 : Hp} (a : Ex H H1) (b : Ex H1 H2) : Ex H H2 := fun x o h => b x o (a x o h)
theorem Ex.new {H : Hp} {p : Addr} {o : HO} (h : H p = none) : Ex H (upd H p o) := fun a u e => by
  rw [upd_ne (ne_of_none e h)]
  exact e
theorem Ex.back {H H' : Hp} {p : Addr} (e : Ex H H') (h : H' p = none) : H p = none := by
  cases h1 : H p with
  | none => rfl
  | some o =>
    rw [e p o h1] at h
    cases h
theorem Ex.same {H H' : Hp} (e : Ex H H') : Same H H' := e
theorem ex_t {K : PySem.W.Frag} {H H' : Hp} {a : Addr} {xs : List V} (e : Ex H H') (h : SqT K H a xs) : SqT K H' a xs := by
  rcases h with (h | ⟨o, h⟩) | h
  · exact .inl (.inl (e _ _ h))
  · exact .inl (.inr ⟨o, e _ _ h⟩)
  · exact .inr h
section
variable {K : PySem.W.Frag} {H H' : Hp}
theorem ex_u {K : PySem.W.Frag} {H H' : Hp} {a : Addr} {xs : List V} (e : Ex H H') (h : H a = some (.tup xs)) : SqT K H' a xs := .of (e _ _ h)
mutual
theorem R.mono (e : Ex H H') : ∀ {v : V} {d : PyData}, R K H v d → R K H' v d
  | _, _, .non => .non
  | _, _, .bl b => .bl b
  | _, _, .int i => .int i
  | _, _, .str x => .str x
  | _, _, .lst h r => .lst (e _ _ h) (RA.mono e r)
  | _, _, .tup h r => .tup (e _ _ h) (RA.mono e r)
  | _, _, .tupF h r => .tupF h (RA.mono e r)
  | _, _, .dK h r => .dK (e _ _ h) (RA.mono e r)
  | _, _, .dT h r => .dT (e _ _ h) (RA.mono e r)
  | _, _, .ins h r => .ins (e _ _ h) (RA.mono e r)
  | _, _, .scr h => .scr (Same.seq e h)
theorem RA.mono (e : Ex H H') : ∀ {vs : List V} {ds : List PyData}, RA K H vs ds → RA K H' vs ds
  | _, _, .nil => .nil
  | _, _, .cons r q => .cons (R.mono e r) (RA.mono e q)
end
theorem RA.length : ∀ {vs : List V} {ds : List PyData}, RA K H vs ds → vs.length = ds.length
  | _, _, .nil => rfl
  | _, _, .cons _ q => congrArg Nat.succ (RA.length q)
theorem RA.get : ∀ {vs : List V} {ds : List PyData} {i : Nat} {d : PyData}, RA K H vs ds → ds[i]? = some d → ∃ v, vs[i]? = some v ∧ R K H v d
  | _, _, 0, _, .cons r _, e => by
    simp at e
    subst e
    exact ⟨_, rfl, r⟩
  | _, _, i + 1, d, .cons _ q, e => by
    obtain ⟨v, h1, h2⟩ := RA.get (i := i) (d := d) q (by simpa using e)
    exact ⟨v, by simpa using h1, h2⟩
theorem RA.getV : ∀ {vs : List V} {ds : List PyData} {i : Nat} {v : V}, RA K H vs ds → vs[i]? = some v → ∃ d, ds[i]? = some d ∧ R K H v d
  | _, _, 0, _, .cons r _, e => by
    simp at e
    subst e
    exact ⟨_, rfl, r⟩
  | _, _, i + 1, v, .cons _ q, e => by
    obtain ⟨d, h1, h2⟩ := RA.getV (i := i) (v := v) q (by simpa using e)
    exact ⟨d, by simpa using h1, h2⟩
theorem RA.append : ∀ {vs ws : List V} {ds es : List PyData}, RA K H vs ds → RA K H ws es → RA K H (vs ++ ws) (ds ++ es)
  | _, _, _, _, .nil, s => s
  | _, _, _, _, .cons r t, s => .cons r (RA.append t s)
theorem RA.take : ∀ {vs : List V} {ds : List PyData} (n : Nat), RA K H vs ds → RA K H (vs.take n) (ds.take n)
  | _, _, 0, _ => .nil
  | _, _, _ + 1, .nil => .nil
  | _, _, n + 1, .cons r t => .cons r (RA.take n t)
theorem RA.drop : ∀ {vs : List V} {ds : List PyData} (n : Nat), RA K H vs ds → RA K H (vs.drop n) (ds.drop n)
  | _, _, 0, r => r
  | _, _, _ + 1, .nil => .nil
  | _, _, n + 1, .cons _ t => RA.drop n t
theorem RA.set : ∀ {vs : List V} {ds : List PyData} {v : V} {d : PyData} (i : Nat), RA K H vs ds → R K H v d → RA K H (vs.set i v) (ds.set i d)
  | _, _, _, _, _, .nil, _ => .nil
  | _, _, _, _, 0, .cons _ t, q => .cons q t
  | _, _, _, _, i + 1, .cons r t, q => .cons r (RA.set i t q)
theorem RA.eraseIdx : ∀ {vs : List V} {ds : List PyData} (i : Nat), RA K H vs ds → RA K H (vs.eraseIdx i) (ds.eraseIdx i)
  | _, _, _, .nil => .nil
  | _, _, 0, .cons _ t => t
  | _, _, i + 1, .cons r t => .cons r (RA.eraseIdx i t)
theorem RA.dropLast {vs : List V} {ds : List PyData} (r : RA K H vs ds) : RA K H vs.dropLast ds.dropLast := by
  rw [List.dropLast_eq_take, List.dropLast_eq_take, r.length]
  exact r.take _
theorem RA.snoc {vs : List V} {ds : List PyData} {v : V} {d : PyData} (r : RA K H vs ds) (q : R K H v d) : RA K H (vs ++ [v]) (ds ++ [d]) := r.append (.cons q .nil)
theorem RA.reverse : ∀ {vs : List V} {ds : List PyData}, RA K H vs ds → RA K H vs.reverse ds.reverse
  | _, _, .nil => .nil
  | _, _, .cons r t => by
    rw [List.reverse_cons, List.reverse_cons]
    exact (RA.reverse t).snoc r
theorem RA.ints : ∀ {vs : List V} {ns : List Int}, RA K H vs (ns.map PyData.int) → vs = ns.map V.int
  | _, [], .nil => rfl
  | _, n :: ns, .cons r t => by
    cases r
    rw [RA.ints t]
    rfl
theorem ra_ints : ∀ ns : List Int, RA K H (ns.map V.int) (ns.map PyData.int)
  | [] => .nil
  | n :: ns => .cons (.int n) (ra_ints ns)
theorem RA.bools : ∀ {vs : List V} {bs : List Bool}, RA K H vs (bs.map PyData.bool) → vs = bs.map V.bl
  | _, [], .nil => rfl
  | _, n :: ns, .cons r t => by
    cases r
    rw [RA.bools t]
    rfl
end
/-! ### the deep data of HandS -/
section
variable {K : PySem.W.Frag} {H : Hp}
mutual
theorem R.dp : ∀ {v : V} {d : PyData}, R K H v d → d.canLay0 = true → Dp K H v d
  | _, _, .non, _ => .non
  | _, _, .bl b, _ => .bl b
  | _, _, .int i, _ => .int i
  | _, _, .str x, _ => .str x
  | _, _, .lst h r, c => .lst (.of h) (RA.dp r (by simpa [PyData.canLay0] using c))
  | _, _, .tup h r, c => .tup (.of h) (RA.dp r (by simpa [PyData.canLay0] using c))
  | _, _, .tupF h r, c => by simp [PyData.canLay0] at c
  | _, _, .dK h r, c => by simp [PyData.canLay0] at c
  | _, _, .dT h r, c => by simp [PyData.canLay0] at c
  | _, _, .ins h r, c => by simp [PyData.canLay0] at c
  | _, _, .scr h, c => by simp [PyData.canLay0] at c
theorem RA.dp : ∀ {vs : List V} {ds : List PyData}, RA K H vs ds → PyData.canLayAll0 ds = true → DpAll K H vs ds
  | _, _, .nil, _ => .nil
  | _, _, .cons r q, c => by
    rw [PyData.canLayAll0, Bool.and_eq_true] at c
    exact .cons (R.dp r c.1) (RA.dp q c.2)
end
end
/-! ### the heap's halves: B is what is fixed, H all; how they grow -/
structure Gr (B H B' H' : Hp) : Prop where
  b : Ex B B'
  h : Ex H H'
  s : Ex B' H'
  l : ∀ a o, H a = some o → B a = none → B' a = none ∨ ∃ xs, o = .tup xs
theorem Gr.refl {B H : Hp} (e : Ex B H) : Gr B H B H := ⟨.refl _, .refl _, e, fun _ _ _ h => .inl h⟩
/-- what is no tuple does not become fixed -/
theorem Gr.lm {B H B' H' : Hp} (g : Gr B H B' H') {a : Addr} {o : HO} (h : H a = some o) (n : B a = none) (t : ∀ xs, o ≠ .tup xs) : B' a = none := (g.l a o h n).resolve_right fun ⟨xs, e⟩ => t xs e
theorem Gr.trans {B H B1 H1 B2 H2 : Hp} (x : Gr B H B1 H1) (y : Gr B1 H1 B2 H2) : Gr B H B2 H2 :=
  ⟨x.b.trans y.b, x.h.trans y.h, y.s, fun a o h n => (x.l a o h n).elim (fun m => y.l a o (x.h a o h) m) .inr⟩
/-- a new object, fixed at once -/
theorem Gr.new {B H : Hp} {p : Addr} {o : HO} (e : Ex B H) (h : H p = none) : Gr B H (upd B p o) (upd H p o) := by
  have hb : B p = none := e.back h
  refine ⟨.new hb, .new h, fun a u q => ?_, fun a u q n => ?_⟩
  · by_cases z : a = p
    · subst z
      rw [upd_same] at q ⊢
      exact q
    · rw [upd_ne z] at q ⊢
      exact e a u q
  · rw [upd_ne (ne_of_none q h)]
    exact .inl n
/-- a new object that may still change -/
theorem Gr.own {B H : Hp} {p : Addr} {o : HO} (e : Ex B H) (h : H p = none) : Gr B H B (upd H p o) := ⟨.refl _, .new h, e.trans (.new h), fun _ _ _ n => .inl n⟩
/-! ### values of expressions: fixed data, or a new object of one's own -/
inductive Sl where
  | dat (d : PyData)
  | own (d : PyData)
def Sl.d : Sl → PyData
  | .dat d => d
  | .own d => d
@[simp] theorem Sl.d_dat (d : PyData) : (Sl.dat d).d = d := rfl
@[simp] theorem Sl.d_own (d : PyData) : (Sl.own d).d = d := rfl
abbrev Env := List (Option Sl)
/-- at p there stands d, its items in B -/
inductive Top (K : PySem.W.Frag) (B : Hp) : HO → PyData → Prop
  | lst {xs : List V} {ds : List PyData} : RA K B xs ds → Top K B (.lst xs) (.list ds)
  | dK {kvs : List (Key × V)} {vs : List PyData} : RA K B (kvs.map (·.2)) vs → Top K B (.dK kvs) (.dict ((kvs.map fun p => keyD p.1).zip vs))
  | dT {kvs : List (List Key × V)} {vs : List PyData} : RA K B (kvs.map (·.2)) vs → Top K B (.dT kvs) (.dict ((PyData.bool true, PyData.none) :: (kvs.map fun p => PyData.tuple (p.1.map keyD)).zip vs))
theorem Top.mono {K : PySem.W.Frag} {B B' : Hp} {o : HO} {d : PyData} (e : Ex B B') (t : Top K B o d) : Top K B' o d := by
  cases t with
  | lst r => exact .lst (r.mono e)
  | dK r => exact .dK (r.mono e)
  | dT r => exact .dT (r.mono e)
theorem Top.r {K : PySem.W.Frag} {B : Hp} {o : HO} {d : PyData} {p : Addr} (t : Top K B o d) (h : B p = some o) : R K B (.ref p) d := by
  cases t with
  | lst r => exact .lst h r
  | dK r => exact .dK h r
  | dT r => exact .dT h r
theorem Top.noT {K : PySem.W.Frag} {B : Hp} {o : HO} {d : PyData} (t : Top K B o d) : ∀ xs, o ≠ .tup xs := by
  cases t <;> exact fun _ h => nomatch h
/-- v is the value sl: H the heap ahead -/
def Res (K : PySem.W.Frag) (H B' H' : Hp) (v : V) : Sl → Prop
  | .dat d => R K B' v d
  | .own d => ∃ p o, v = .ref p ∧ H p = none ∧ B' p = none ∧ H' p = some o ∧ Top K B' o d
/-- made fixed -/
theorem Res.fix {K : PySem.W.Frag} {B H B' H' : Hp} {v : V} {sl : Sl} (g : Gr B H B' H') (r : Res K H B' H' v sl) : ∃ B2, Gr B H B2 H' ∧ R K B2 v sl.d := by
  cases sl with
  | dat d => exact ⟨B', g, r⟩
  | own d =>
    obtain ⟨p, o, rfl, n, nb, e, t⟩ := r
    have x : Ex B' (upd B' p o) := .new nb
    refine ⟨upd B' p o, ⟨g.b.trans x, g.h, fun a u q => ?_, fun a u q m => ?_⟩, (t.mono x).r upd_same⟩
    · by_cases z : a = p
      · subst z
        rw [upd_same] at q
        rw [e]
        exact q
      · rw [upd_ne z] at q
        exact g.s a u q
    · rw [upd_ne (ne_of_none q n)]
      exact g.l a u q m
theorem Res.later {K : PySem.W.Frag} {H0 H B' H' : Hp} {v : V} {sl : Sl} (e : Ex H0 H) (r : Res K H B' H' v sl) : Res K H0 B' H' v sl := by
  cases sl with
  | dat d => exact r
  | own d =>
    obtain ⟨p, o, h1, h2, h3⟩ := r
    exact ⟨p, o, h1, e.back h2, h3⟩
/-! ### the slots -/
structure ER (K : PySem.W.Frag) (B0 H0 B H : Hp) (σ : L2.St) (ρ : Env) : Prop where
  gr : Gr B0 H0 B H
  len : σ.length = ρ.length
  dat : ∀ (i : Nat) d, ρ[i]? = some (some (.dat d)) → ∃ v, σ[i]? = some (some v) ∧ R K B v d
  own : ∀ (i : Nat) d, ρ[i]? = some (some (.own d)) → ∃ p o, σ[i]? = some (some (.ref p)) ∧ H0 p = none ∧ B p = none ∧ H p = some o ∧ Top K B o d
  sep : ∀ (i j : Nat) d e p, ρ[i]? = some (some (.own d)) → ρ[j]? = some (some (.own e)) → σ[i]? = some (some (.ref p)) → σ[j]? = some (some (.ref p)) → i = j
section
variable {K : PySem.W.Frag} {B0 H0 B H B' H' : Hp} {σ : L2.St} {ρ : Env}
theorem ER.grow (r : ER K B0 H0 B H σ ρ) (g : Gr B H B' H') : ER K B0 H0 B' H' σ ρ where
  gr := r.gr.trans g
  len := r.len
  dat := fun i d e => let ⟨v, h1, h2⟩ := r.dat i d e; ⟨v, h1, h2.mono g.b⟩
  own := fun i d e => let ⟨p, o, h1, h2, h3, h4, h5⟩ := r.own i d e; ⟨p, o, h1, h2, g.lm h4 h3 h5.noT, g.h p o h4, h5.mono g.b⟩
  sep := r.sep
/-- a slot is stored -/
theorem ER.put {v : V} {sl : Sl} {i : Nat} (r : ER K B0 H0 B H σ ρ) (g : Gr B H B' H') (q : Res K H B' H' v sl) : ER K B0 H0 B' H' (σ.set i (some v)) (ρ.set i (some sl)) := by
  have r' := r.grow g
  refine ⟨r'.gr, by rw [List.length_set, List.length_set]; exact r.len, fun j d e => ?_, fun j d e => ?_, fun j k d e p h1 h2 h3 h4 => ?_⟩
  · by_cases z : i = j
    · subst z
      have hl : i < ρ.length := by
        have := (List.getElem?_eq_some_iff.mp e).1
        simpa using this
      rw [List.getElem?_set_self hl] at e
      cases e
      exact ⟨v, List.getElem?_set_self (by rw [r.len]; exact hl), q⟩
    · rw [List.getElem?_set_ne z] at e ⊢
      exact r'.dat j d e
  · by_cases z : i = j
    · subst z
      have hl : i < ρ.length := by
        have := (List.getElem?_eq_some_iff.mp e).1
        simpa using this
      rw [List.getElem?_set_self hl] at e
      cases e
      obtain ⟨p, o, rfl, n, nb, hp, t⟩ := q
      exact ⟨p, o, List.getElem?_set_self (by rw [r.len]; exact hl), r.gr.h.back n, nb, hp, t⟩
    · rw [List.getElem?_set_ne z] at e ⊢
      exact r'.own j d e
  · have key : ∀ (j : Nat) d, i ≠ j → (ρ.set i (some sl))[j]? = some (some (.own d)) → (σ.set i (some v))[j]? = some (some (.ref p)) → Res K H B' H' v sl → v = .ref p → sl.d = sl.d → (∃ e, sl = .own e) → False := by
      intro j d z e1 e2 q hv _ ⟨e, hs⟩
      subst hs
      obtain ⟨p', o, hv', n, _⟩ := q
      rw [hv] at hv'
      cases hv'
      rw [List.getElem?_set_ne z] at e1 e2
      obtain ⟨p2, o2, h1, _, _, h4, _⟩ := r.own j d e1
      rw [e2] at h1
      cases h1
      rw [n] at h4
      cases h4
    by_cases z1 : i = j
    · by_cases z2 : i = k
      · rw [← z1, ← z2]
      · exfalso
        subst z1
        have hl : i < ρ.length := by
          have := (List.getElem?_eq_some_iff.mp h1).1
          simpa using this
        rw [List.getElem?_set_self hl] at h1
        rw [List.getElem?_set_self (by rw [r.len]; exact hl)] at h3
        cases h1
        cases h3
        exact key k e z2 h2 h4 q rfl rfl ⟨_, rfl⟩
    · by_cases z2 : i = k
      · exfalso
        subst z2
        have hl : i < ρ.length := by
          have := (List.getElem?_eq_some_iff.mp h2).1
          simpa using this
        rw [List.getElem?_set_self hl] at h2
        rw [List.getElem?_set_self (by rw [r.len]; exact hl)] at h4
        cases h2
        cases h4
        exact key j d z1 h1 h3 q rfl rfl ⟨_, rfl⟩
      · rw [List.getElem?_set_ne z1] at h1 h3
        rw [List.getElem?_set_ne z2] at h2 h4
        exact r.sep j k d e p h1 h2 h3 h4
/-- a slot is forgotten -/
theorem ER.drop {i : Nat} {o : Option V} (r : ER K B0 H0 B H σ ρ) : ER K B0 H0 B H (σ.set i o) (ρ.set i none) := by
  refine ⟨r.gr, by rw [List.length_set, List.length_set]; exact r.len, fun j d e => ?_, fun j d e => ?_, fun j k d e p h1 h2 h3 h4 => ?_⟩
  · by_cases z : i = j
    · subst z
      have hl : i < ρ.length := by
        have := (List.getElem?_eq_some_iff.mp e).1
        simpa using this
      rw [List.getElem?_set_self hl] at e
      cases e
    · rw [List.getElem?_set_ne z] at e ⊢
      exact r.dat j d e
  · by_cases z : i = j
    · subst z
      have hl : i < ρ.length := by
        have := (List.getElem?_eq_some_iff.mp e).1
        simpa using this
      rw [List.getElem?_set_self hl] at e
      cases e
    · rw [List.getElem?_set_ne z] at e ⊢
      exact r.own j d e
  · have ne : ∀ (j : Nat) d, (ρ.set i none)[j]? = some (some (.own d)) → i ≠ j := by
      intro j d e z
      subst z
      have hl : i < ρ.length := by
        have := (List.getElem?_eq_some_iff.mp e).1
        simpa using this
      rw [List.getElem?_set_self hl] at e
      cases e
    have z1 := ne j d h1
    have z2 := ne k e h2
    rw [List.getElem?_set_ne z1] at h1 h3
    rw [List.getElem?_set_ne z2] at h2 h4
    exact r.sep j k d e p h1 h2 h3 h4
/-- an owned slot is fixed -/
def Env.fix (ρ : Env) (i : Nat) : Env := match ρ[i]? with
  | some (some (.own d)) => ρ.set i (some (.dat d))
  | _ => ρ
def Own (o : HO) : Prop := match o with
  | .lst _ => True
  | .dK _ => True
  | .dT _ => True
  | _ => False
theorem Top.ownO {o : HO} {d : PyData} (t : Top K B o d) : Own o := by cases t <;> trivial
theorem ER.fix {i : Nat} (r : ER K B0 H0 B H σ ρ) : ∃ B2, (∀ a o, B2 a = some o → B a = some o ∨ Own o) ∧ Ex B B2 ∧ ER K B0 H0 B2 H σ (ρ.fix i) := by
  unfold Env.fix
  split
  · rename_i d e
    obtain ⟨p, o, h1, h2, h3, h4, h5⟩ := r.own i d e
    have x : Ex B (upd B p o) := .new h3
    have g : Gr B0 H0 (upd B p o) H := by
      refine ⟨r.gr.b.trans x, r.gr.h, fun a u q => ?_, fun a u q n => ?_⟩
      · by_cases z : a = p
        · subst z
          rw [upd_same] at q
          rw [h4]
          exact q
        · rw [upd_ne z] at q
          exact r.gr.s a u q
      · rw [upd_ne (ne_of_none q h2)]
        exact r.gr.l a u q n
    have hl : i < ρ.length := (List.getElem?_eq_some_iff.mp e).1
    refine ⟨upd B p o, fun a u q => ?_, x, g, by rw [List.length_set]; exact r.len, fun j c q => ?_, fun j c q => ?_, fun j k c c' p' q1 q2 q3 q4 => ?_⟩
    · by_cases z : a = p
      · subst z
        rw [upd_same] at q
        cases q
        exact .inr h5.ownO
      · rw [upd_ne z] at q
        exact .inl q
    · by_cases z : i = j
      · subst z
        rw [List.getElem?_set_self hl] at q
        cases q
        exact ⟨_, h1, (h5.mono x).r upd_same⟩
      · rw [List.getElem?_set_ne z] at q
        obtain ⟨v, k1, k2⟩ := r.dat j c q
        exact ⟨v, k1, k2.mono x⟩
    · by_cases z : i = j
      · subst z
        rw [List.getElem?_set_self hl] at q
        cases q
      · rw [List.getElem?_set_ne z] at q
        obtain ⟨p2, o2, k1, k2, k3, k4, k5⟩ := r.own j c q
        have ne : p2 ≠ p := by
          intro zz
          subst zz
          exact z (r.sep i j d c p2 e q h1 k1)
        exact ⟨p2, o2, k1, k2, by rw [upd_ne ne]; exact k3, k4, k5.mono x⟩
    · have ne : ∀ (j : Nat) c, (ρ.set i (some (.dat d)))[j]? = some (some (.own c)) → i ≠ j := by
        intro j c q z
        subst z
        rw [List.getElem?_set_self hl] at q
        cases q
      have z1 := ne j c q1
      have z2 := ne k c' q2
      rw [List.getElem?_set_ne z1] at q1
      rw [List.getElem?_set_ne z2] at q2
      exact r.sep j k c c' p' q1 q2 q3 q4
  · exact ⟨B, fun a o h => .inl h, .refl _, r⟩
end
end Dl
/-! The data layer: judgements. -/
namespace Dl
open PySem PySem.Spec PyProof.Rows L2
/-! ### what is wanted of a piece of code, by what it does with data -/
def EPost (K : PySem.W.Frag) (E : XK) (B H : Hp) (r : M Sl) (Q : VK) : Prop := match r with
  | .stuck => False
  | .exc x => ∀ H', Ex H H' → E (.ref (He.ga K x)) none H'
  | .ok sl => ∀ v B' H', Gr B H B' H' → Res K H B' H' v sl → Q v H'
def TPost (K : PySem.W.Frag) (E : XK) (B H : Hp) (r : M Bool) (Q : Bool → Hp → Prop) : Prop := match r with
  | .stuck => False
  | .exc x => ∀ H', Ex H H' → E (.ref (He.ga K x)) none H'
  | .ok b => ∀ B' H', Gr B H B' H' → Q b H'
def APost (K : PySem.W.Frag) (E : XK) (B H : Hp) (r : M (List PyData)) (Q : List V → Hp → Prop) : Prop := match r with
  | .stuck => False
  | .exc x => ∀ H', Ex H H' → E (.ref (He.ga K x)) none H'
  | .ok ds => ∀ vs B' H', Gr B H B' H' → RA K B' vs ds → Q vs H'
/-- an expression; a test; arguments -/
def DE (X : Cx) (E : XK) (e : Expr) (f : Env → M Sl) : Prop := ∃ t, PE X e t ∧ ∀ B0 H0 B H σ ρ Q, ER X.K B0 H0 B H σ ρ → EPost X.K E B H (f ρ) Q → t σ H Q
def DT (X : Cx) (E : XK) (e : Expr) (f : Env → M Bool) : Prop := ∃ t, PT X e t ∧ ∀ B0 H0 B H σ ρ Q, ER X.K B0 H0 B H σ ρ → TPost X.K E B H (f ρ) Q → t σ H Q
def DW (X : Cx) (E : XK) (e : Expr) (f : Env → M Bool) : Prop := ∃ t, PW X e t ∧ ∀ B0 H0 B H σ ρ Q, ER X.K B0 H0 B H σ ρ → TPost X.K E B H (f ρ) Q → t σ H Q
def DA (X : Cx) (E : XK) (es : List Expr) (f : Env → M (List PyData)) : Prop := ∃ t, PA X es t ∧ ∀ B0 H0 B H σ ρ Q, ER X.K B0 H0 B H σ ρ → APost X.K E B H (f ρ) Q → t σ H Q
section
variable {X : Cx} {E : XK} {K : PySem.W.Frag} {B H B' H' : Hp}
theorem EPost.grow {r : M Sl} {Q : VK} (g : Gr B H B' H') (h : EPost K E B H r Q) : EPost K E B' H' r Q := by
  cases r with
  | stuck => exact h
  | exc x => exact fun H2 e => h H2 (g.h.trans e)
  | ok sl => exact fun v B2 H2 g2 q => h v B2 H2 (g.trans g2) (q.later g.h)
theorem TPost.grow {r : M Bool} {Q : Bool → Hp → Prop} (g : Gr B H B' H') (h : TPost K E B H r Q) : TPost K E B' H' r Q := by
  cases r with
  | stuck => exact h
  | exc x => exact fun H2 e => h H2 (g.h.trans e)
  | ok sl => exact fun B2 H2 g2 => h B2 H2 (g.trans g2)
theorem APost.grow {r : M (List PyData)} {Q : List V → Hp → Prop} (g : Gr B H B' H') (h : APost K E B H r Q) : APost K E B' H' r Q := by
  cases r with
  | stuck => exact h
  | exc x => exact fun H2 e => h H2 (g.h.trans e)
  | ok sl => exact fun v B2 H2 g2 q => h v B2 H2 (g.trans g2) q
/-- a value that needs no object, given at once -/
theorem EPost.val {v : V} {d : PyData} {Q : VK} (e : Ex B H) (r : R K B v d) (h : EPost K E B H (.ok (.dat d)) Q) : Q v H := h v B H (.refl e) r
/-- a new fixed object -/
theorem EPost.new {p : Addr} {o : HO} {d : PyData} {Q : VK} (e : Ex B H) (n : H p = none) (r : R K (upd B p o) (.ref p) d) (h : EPost K E B H (.ok (.dat d)) Q) : Q (.ref p) (upd H p o) := h _ _ _ (.new e n) r
/-- a new object of one's own -/
theorem EPost.own {p : Addr} {o : HO} {d : PyData} {Q : VK} (e : Ex B H) (n : H p = none) (r : Top K B o d) (h : EPost K E B H (.ok (.own d)) Q) : Q (.ref p) (upd H p o) :=
  h _ _ _ (.own e n) ⟨p, o, rfl, n, e.back n, upd_same, r⟩
theorem EPost.bind {α : Type} {r : M α} {g : α → M Sl} {Q : VK} (h : EPost K E B H (r.bind g) Q) : (∃ a, r = .ok a ∧ EPost K E B H (g a) Q) ∨ ∃ x, r = .exc x ∧ ∀ H', Ex H H' → E (.ref (He.ga K x)) none H' := by
  cases r with
  | stuck => exact h.elim
  | exc x => exact .inr ⟨x, rfl, h⟩
  | ok a => exact .inl ⟨a, rfl, h⟩
theorem TPost.bind {α : Type} {r : M α} {g : α → M Bool} {Q : Bool → Hp → Prop} (h : TPost K E B H (r.bind g) Q) : (∃ a, r = .ok a ∧ TPost K E B H (g a) Q) ∨ ∃ x, r = .exc x ∧ ∀ H', Ex H H' → E (.ref (He.ga K x)) none H' := by
  cases r with
  | stuck => exact h.elim
  | exc x => exact .inr ⟨x, rfl, h⟩
  | ok a => exact .inl ⟨a, rfl, h⟩
theorem APost.bind {α : Type} {r : M α} {g : α → M (List PyData)} {Q : List V → Hp → Prop} (h : APost K E B H (r.bind g) Q) : (∃ a, r = .ok a ∧ APost K E B H (g a) Q) ∨ ∃ x, r = .exc x ∧ ∀ H', Ex H H' → E (.ref (He.ga K x)) none H' := by
  cases r with
  | stuck => exact h.elim
  | exc x => exact .inr ⟨x, rfl, h⟩
  | ok a => exact .inl ⟨a, rfl, h⟩
end
/-- an expression's run, seen from what comes behind it: the value fixed -/
theorem run_e {X : Cx} {E : XK} {f : Env → M Sl} {t : TE} (h : ∀ B0 H0 B H σ ρ Q, ER X.K B0 H0 B H σ ρ → EPost X.K E B H (f ρ) Q → t σ H Q)
    {B0 H0 B H : Hp} {σ : L2.St} {ρ : Env} {Q : VK} (r : ER X.K B0 H0 B H σ ρ) (hf : (∃ sl, f ρ = .ok sl ∧ ∀ v B' H', Gr B H B' H' → R X.K B' v sl.d → Q v H') ∨ ∃ x, f ρ = .exc x ∧ ∀ H', Ex H H' → E (.ref (He.ga X.K x)) none H') : t σ H Q := by
  rcases hf with ⟨sl, e1, k⟩ | ⟨x, e1, k⟩
  · refine h B0 H0 B H σ ρ Q r ?_
    rw [e1]
    intro v B' H' g q
    obtain ⟨B2, g2, r2⟩ := q.fix g
    exact k v B2 H' g2 r2
  · refine h B0 H0 B H σ ρ Q r ?_
    rw [e1]
    exact k
section
variable {X : Cx} {E : XK} {a b c e o : Expr} {es : List Expr} {fa fb fc : Env → M Sl} {pos : Pos}
/-! ### names, constants -/
def eVar (i : Nat) : Env → M Sl := fun ρ => match ρ[i]? with
  | some (some (.dat d)) => .ok (.dat d)
  | _ => .stuck
def eC (d : PyData) : Env → M Sl := fun _ => .ok (.dat d)
theorem de_var (i : Nat) (h : PE X e (tVar i)) : DE X E e (eVar i) := by
  refine ⟨_, h, fun B0 H0 B H σ ρ Q r q => ?_⟩
  unfold eVar at q
  split at q
  · rename_i d hd
    obtain ⟨v, h1, h2⟩ := r.dat i d hd
    exact ⟨v, h1, q v B H (.refl r.gr.s) h2⟩
  · exact q.elim
theorem de_c {v : V} {d : PyData} (h : PE X e (tC v)) (r : ∀ K H, R K H v d) : DE X E e (eC d) :=
  ⟨_, h, fun B0 H0 B H σ ρ Q r' q => q v B H (.refl r'.gr.s) (r _ _)⟩
theorem de_int {i : Int} {j} : DE X E (.Constant (.int i) j pos) (eC (.int i)) := de_c pe_int fun _ _ => .int i
theorem de_bl {i : Bool} {j} : DE X E (.Constant (.bool i) j pos) (eC (.bool i)) := de_c pe_bl fun _ _ => .bl i
theorem de_non {j} : DE X E (.Constant .none j pos) (eC .none) := de_c pe_non fun _ _ => .non
theorem de_str {x : Str} {j} : DE X E (.Constant (.str x) j pos) (eC (.str x)) := de_c pe_str fun _ _ => .str x
/-! ### operators by values -/
def OpD (X : Cx) (E : XK) (r : R2) (g : PyData → PyData → M Sl) : Prop := ∀ x y d e B H Q, Ex B H → R X.K B x d → R X.K B y e → EPost X.K E B H (g d e) Q → r x y H Q
def UnD (X : Cx) (E : XK) (r : V → Hp → VK → Prop) (g : PyData → M Sl) : Prop := ∀ x d B H Q, Ex B H → R X.K B x d → EPost X.K E B H (g d) Q → r x H Q
def CallD (X : Cx) (E : XK) (r : List V → Hp → VK → Prop) (g : List PyData → M Sl) : Prop := ∀ xs ds B H Q, Ex B H → RA X.K B xs ds → EPost X.K E B H (g ds) Q → r xs H Q
def eOp (g : PyData → PyData → M Sl) (fa fb : Env → M Sl) : Env → M Sl := fun ρ => (fa ρ).bind fun x => (fb ρ).bind fun y => g x.d y.d
def eUn (g : PyData → M Sl) (fa : Env → M Sl) : Env → M Sl := fun ρ => (fa ρ).bind fun x => g x.d
theorem run_op {r : R2} {g : PyData → PyData → M Sl} {ta tb : TE} (hg : OpD X E r g)
    (ha : ∀ B0 H0 B H σ ρ Q, ER X.K B0 H0 B H σ ρ → EPost X.K E B H (fa ρ) Q → ta σ H Q) (hb : ∀ B0 H0 B H σ ρ Q, ER X.K B0 H0 B H σ ρ → EPost X.K E B H (fb ρ) Q → tb σ H Q) :
    ∀ B0 H0 B H σ ρ Q, ER X.K B0 H0 B H σ ρ → EPost X.K E B H (eOp g fa fb ρ) Q → tOp r ta tb σ H Q := by
  intro B0 H0 B H σ ρ Q re q
  refine run_e ha re ?_
  rcases q.bind with ⟨x, e1, q⟩ | ⟨x, e1, q⟩
  · refine .inl ⟨x, e1, fun v B1 H1 g1 r1 => ?_⟩
    have q := q.grow g1
    refine run_e hb (re.grow g1) ?_
    rcases q.bind with ⟨y, e2, q⟩ | ⟨y, e2, q⟩
    · exact .inl ⟨y, e2, fun u B2 H2 g2 r2 => hg v u x.d y.d B2 H2 Q g2.s (r1.mono g2.b) r2 (q.grow g2)⟩
    · exact .inr ⟨y, e2, q⟩
  · exact .inr ⟨x, e1, q⟩
theorem de_op {op : Operator} {r : R2} {g : PyData → PyData → M Sl} (ho : OpR X (binaryOp op) r) (hg : OpD X E r g) (ha : DE X E a fa) (hb : DE X E b fb) : DE X E (.BinOp a op b pos) (eOp g fa fb) := by
  obtain ⟨ta, pa, ha⟩ := ha
  obtain ⟨tb, pb, hb⟩ := hb
  exact ⟨_, pe_op ho pa pb, run_op hg ha hb⟩
theorem de_un {op : UnaryOp} {r : V → Hp → VK → Prop} {g : PyData → M Sl} (ho : UnR X (unaryOp op) r) (hg : UnD X E r g) (ha : DE X E a fa) : DE X E (.UnaryOp op a pos) (eUn g fa) := by
  obtain ⟨ta, pa, ha⟩ := ha
  refine ⟨_, pe_un ho pa, fun B0 H0 B H σ ρ Q re q => ?_⟩
  refine run_e ha re ?_
  rcases q.bind with ⟨x, e1, q⟩ | ⟨x, e1, q⟩
  · exact .inl ⟨x, e1, fun v B1 H1 g1 r1 => hg v x.d B1 H1 Q g1.s r1 (q.grow g1)⟩
  · exact .inr ⟨x, e1, q⟩
theorem de_cmp {op : CmpOp} {r : R2} {g : PyData → PyData → M Sl} (ho : OpR X (compareOp op) r) (hg : OpD X E r g) (ha : DE X E a fa) (hb : DE X E b fb) (hm : behindInMarks op b = false) : DE X E (.Compare a [op] [b] pos) (eOp g fa fb) := by
  obtain ⟨ta, pa, ha⟩ := ha
  obtain ⟨tb, pb, hb⟩ := hb
  exact ⟨_, pe_cmpR ho pa pb hm, run_op hg ha hb⟩
/-- a bool among data -/
def isB : PyData → M Bool
  | .bool b => .ok b
  | _ => .stuck
def tOf (f : Env → M Sl) : Env → M Bool := fun ρ => (f ρ).bind fun x => isB x.d
theorem isB_ok {d : PyData} {b : Bool} {K : PySem.W.Frag} {B : Hp} {v : V} (h : isB d = .ok b) (r : R K B v d) : v = .bl b := by
  cases r <;> simp [isB] at h
  subst h
  rfl
theorem tpost_isB {K : PySem.W.Frag} {B H : Hp} {d : PyData} {Q : Bool → Hp → Prop} {v : V} (r : R K B v d) (e : Ex B H) (h : TPost K E B H (isB d) Q) : ∃ b, v = .bl b ∧ Q b H := by
  cases q : isB d with
  | stuck =>
    rw [q] at h
    exact h.elim
  | exc x => cases d <;> simp [isB] at q
  | ok b =>
    rw [q] at h
    exact ⟨b, isB_ok q r, h B H (.refl e)⟩
theorem dt_cmp {op : CmpOp} {r : R2} {g : PyData → PyData → M Sl} (ho : OpR X (compareOp op) r) (hg : OpD X E r g) (ha : DE X E a fa) (hb : DE X E b fb) (hm : behindInMarks op b = false) : DT X E (.Compare a [op] [b] pos) (tOf (eOp g fa fb)) := by
  obtain ⟨ta, pa, ha⟩ := ha
  obtain ⟨tb, pb, hb⟩ := hb
  refine ⟨_, pt_cmpR ho pa pb hm, fun B0 H0 B H σ ρ Q re q => ?_⟩
  refine run_e (run_op hg ha hb) re ?_
  rcases q.bind with ⟨x, e1, q⟩ | ⟨x, e1, q⟩
  · exact .inl ⟨x, e1, fun v B1 H1 g1 r1 => tpost_isB r1 g1.s (q.grow g1)⟩
  · exact .inr ⟨x, e1, q⟩
theorem dt_val (ha : DE X E a fa) (he : ∀ whole, isTrue a X.env whole = (do let v ← whole; standAt a.pos; holding [v] (truthy v)) := by intro _; rfl) : DT X E a (tOf fa) := by
  obtain ⟨ta, pa, ha⟩ := ha
  refine ⟨_, pt_val pa he, fun B0 H0 B H σ ρ Q re q => ?_⟩
  refine run_e ha re ?_
  rcases q.bind with ⟨x, e1, q⟩ | ⟨x, e1, q⟩
  · exact .inl ⟨x, e1, fun v B1 H1 g1 r1 => tpost_isB r1 g1.s (q.grow g1)⟩
  · exact .inr ⟨x, e1, q⟩
/-! ### tests put together -/
theorem run_t {f : Env → M Bool} {t : TT} (h : ∀ B0 H0 B H σ ρ Q, ER X.K B0 H0 B H σ ρ → TPost X.K E B H (f ρ) Q → t σ H Q)
    {B0 H0 B H : Hp} {σ : L2.St} {ρ : Env} {Q : Bool → Hp → Prop} (r : ER X.K B0 H0 B H σ ρ) (hf : (∃ b, f ρ = .ok b ∧ ∀ B' H', Gr B H B' H' → Q b H') ∨ ∃ x, f ρ = .exc x ∧ ∀ H', Ex H H' → E (.ref (He.ga X.K x)) none H') : t σ H Q := by
  rcases hf with ⟨b, e1, k⟩ | ⟨x, e1, k⟩
  · refine h B0 H0 B H σ ρ Q r ?_
    rw [e1]
    exact k
  · refine h B0 H0 B H σ ρ Q r ?_
    rw [e1]
    exact k
def tAndF (f g : Env → M Bool) : Env → M Bool := fun ρ => (f ρ).bind fun b => if b = true then g ρ else .ok false
def tOrF (f g : Env → M Bool) : Env → M Bool := fun ρ => (f ρ).bind fun b => if b = true then .ok true else g ρ
def tNotF (f : Env → M Bool) : Env → M Bool := fun ρ => (f ρ).bind fun b => .ok (!b)
section
variable {f g : Env → M Bool} {rest : List Expr}
theorem dt_not (h : DT X E a f) : DT X E (.UnaryOp .Not a pos) (tNotF f) := by
  obtain ⟨t, p, h⟩ := h
  refine ⟨_, pt_not p, fun B0 H0 B H σ ρ Q re q => ?_⟩
  refine run_t h re ?_
  rcases q.bind with ⟨x, e1, q⟩ | ⟨x, e1, q⟩
  · exact .inl ⟨x, e1, fun B1 H1 g1 => q B1 H1 g1⟩
  · exact .inr ⟨x, e1, q⟩
theorem dw_and1 (h : DT X E a f) : DW X E (.BoolOp .And [a] pos) f := let ⟨_, p, h⟩ := h; ⟨_, pw_and1 p, h⟩
theorem dw_or1 (h : DT X E a f) : DW X E (.BoolOp .Or [a] pos) f := let ⟨_, p, h⟩ := h; ⟨_, pw_or1 p, h⟩
theorem dw_and (h : DT X E a f) (k : DW X E (.BoolOp .And (b :: rest) pos) g) : DW X E (.BoolOp .And (a :: b :: rest) pos) (tAndF f g) := by
  obtain ⟨t, p, h⟩ := h
  obtain ⟨u, pu, k⟩ := k
  refine ⟨_, pw_and p pu, fun B0 H0 B H σ ρ Q re q => ?_⟩
  refine run_t h re ?_
  rcases q.bind with ⟨x, e1, q⟩ | ⟨x, e1, q⟩
  · refine .inl ⟨x, e1, fun B1 H1 g1 => ?_⟩
    cases x with
    | true => exact k B0 H0 B1 H1 σ ρ Q (re.grow g1) (TPost.grow g1 q)
    | false => exact q B1 H1 g1
  · exact .inr ⟨x, e1, q⟩
theorem dw_or (h : DT X E a f) (k : DW X E (.BoolOp .Or (b :: rest) pos) g) : DW X E (.BoolOp .Or (a :: b :: rest) pos) (tOrF f g) := by
  obtain ⟨t, p, h⟩ := h
  obtain ⟨u, pu, k⟩ := k
  refine ⟨_, pw_or p pu, fun B0 H0 B H σ ρ Q re q => ?_⟩
  refine run_t h re ?_
  rcases q.bind with ⟨x, e1, q⟩ | ⟨x, e1, q⟩
  · refine .inl ⟨x, e1, fun B1 H1 g1 => ?_⟩
    cases x with
    | true => exact q B1 H1 g1
    | false => exact k B0 H0 B1 H1 σ ρ Q (re.grow g1) (TPost.grow g1 q)
  · exact .inr ⟨x, e1, q⟩
theorem DW.dt (h : DW X E a f) : DT X E a f := let ⟨_, p, h⟩ := h; ⟨_, p.pt, h⟩
end
def eAndV (fa fb : Env → M Sl) : Env → M Sl := fun ρ => (tOf fa ρ).bind fun b => if b = true then fb ρ else .ok (.dat (.bool false))
def eOrV (fa fb : Env → M Sl) : Env → M Sl := fun ρ => (tOf fa ρ).bind fun b => if b = true then .ok (.dat (.bool true)) else fb ρ
def eNotV (fa : Env → M Sl) : Env → M Sl := fun ρ => (tOf fa ρ).bind fun b => .ok (.dat (.bool (!b)))
theorem epost_tOf {K : PySem.W.Frag} {B H : Hp} {r : M Sl} {g : Bool → M Sl} {Q : VK} (h : EPost K E B H ((r.bind fun x => isB x.d).bind g) Q) :
    (∃ sl, r = .ok sl ∧ ∀ v B' H', Gr B H B' H' → R K B' v sl.d → ∃ b, v = .bl b ∧ EPost K E B' H' (g b) Q) ∨ ∃ x, r = .exc x ∧ ∀ H', Ex H H' → E (.ref (He.ga K x)) none H' := by
  cases r with
  | stuck => exact h.elim
  | exc x => exact .inr ⟨x, rfl, h⟩
  | ok sl =>
    refine .inl ⟨sl, rfl, fun v B' H' g1 r1 => ?_⟩
    rw [bind_ok] at h
    cases q : isB sl.d with
    | stuck =>
      rw [q] at h
      exact h.elim
    | exc x =>
      exfalso
      cases z : sl.d <;> rw [z] at q <;> simp [isB] at q
    | ok b =>
      rw [q, bind_ok] at h
      exact ⟨b, isB_ok q r1, h.grow g1⟩
theorem de_not (ha : DE X E a fa) : DE X E (.UnaryOp .Not a pos) (eNotV fa) := by
  obtain ⟨ta, pa, ha⟩ := ha
  refine ⟨_, pe_not pa, fun B0 H0 B H σ ρ Q re q => ?_⟩
  refine run_e ha re ?_
  rcases epost_tOf q with ⟨x, e1, q⟩ | ⟨x, e1, q⟩
  · refine .inl ⟨x, e1, fun v B1 H1 g1 r1 => ?_⟩
    obtain ⟨b, rfl, q⟩ := q v B1 H1 g1 r1
    exact ⟨b, rfl, q.val g1.s (.bl _)⟩
  · exact .inr ⟨x, e1, q⟩
theorem de_one {op} (ha : DE X E a fa) : DE X E (.BoolOp op [a] pos) fa := let ⟨_, p, h⟩ := ha; ⟨_, pe_one p, h⟩
theorem de_and {rest : List Expr} (ha : DE X E a fa) (hb : DE X E (.BoolOp .And (b :: rest) pos) fb) : DE X E (.BoolOp .And (a :: b :: rest) pos) (eAndV fa fb) := by
  obtain ⟨ta, pa, ha⟩ := ha
  obtain ⟨tb, pb, hb⟩ := hb
  refine ⟨_, pe_and pa pb, fun B0 H0 B H σ ρ Q re q => ?_⟩
  refine run_e ha re ?_
  rcases epost_tOf q with ⟨x, e1, q⟩ | ⟨x, e1, q⟩
  · refine .inl ⟨x, e1, fun v B1 H1 g1 r1 => ?_⟩
    obtain ⟨b, rfl, q⟩ := q v B1 H1 g1 r1
    refine ⟨b, rfl, ?_⟩
    cases b with
    | true => exact hb B0 H0 B1 H1 σ ρ Q (re.grow g1) q
    | false => exact q.val g1.s (.bl _)
  · exact .inr ⟨x, e1, q⟩
def eIf (f : Env → M Bool) (fa fb : Env → M Sl) : Env → M Sl := fun ρ => (f ρ).bind fun b => if b = true then fa ρ else fb ρ
theorem de_if {f : Env → M Bool} (h : DT X E c f) (ha : DE X E a fa) (hb : DE X E b fb) : DE X E (.IfExp c a b pos) (eIf f fa fb) := by
  obtain ⟨t, p, h⟩ := h
  obtain ⟨ta, pa, ha⟩ := ha
  obtain ⟨tb, pb, hb⟩ := hb
  refine ⟨_, pe_ifExp p pa pb, fun B0 H0 B H σ ρ Q re q => ?_⟩
  refine run_t h re ?_
  rcases q.bind with ⟨x, e1, q⟩ | ⟨x, e1, q⟩
  · refine .inl ⟨x, e1, fun B1 H1 g1 => ?_⟩
    cases x with
    | true => exact ha B0 H0 B1 H1 σ ρ Q (re.grow g1) (EPost.grow g1 q)
    | false => exact hb B0 H0 B1 H1 σ ρ Q (re.grow g1) (EPost.grow g1 q)
  · exact .inr ⟨x, e1, q⟩
/-! ### arguments, displays -/
def aNil : Env → M (List PyData) := fun _ => .ok []
def aCons (f : Env → M Sl) (g : Env → M (List PyData)) : Env → M (List PyData) := fun ρ => (f ρ).bind fun x => (g ρ).bind fun ds => .ok (x.d :: ds)
theorem da_nil : DA X E [] aNil := ⟨_, pa_nil, fun B0 H0 B H σ ρ Q re q => q [] B H (.refl re.gr.s) .nil⟩
theorem da_cons {f : Env → M Sl} {g : Env → M (List PyData)} (h : DE X E e f) (k : DA X E es g) (hs : starEach (e :: es) X.env = (false, eval e X.env) :: starEach es X.env := by rfl) : DA X E (e :: es) (aCons f g) := by
  obtain ⟨t, p, h⟩ := h
  obtain ⟨u, pu, k⟩ := k
  refine ⟨_, pa_cons p pu hs, fun B0 H0 B H σ ρ Q re q => ?_⟩
  refine run_e h re ?_
  rcases q.bind with ⟨x, e1, q⟩ | ⟨x, e1, q⟩
  · refine .inl ⟨x, e1, fun v B1 H1 g1 r1 => ?_⟩
    refine k B0 H0 B1 H1 σ ρ _ (re.grow g1) ?_
    have q := APost.grow g1 q
    cases z : g ρ with
    | stuck =>
      rw [z] at q
      exact q.elim
    | exc x =>
      rw [z] at q
      exact q
    | ok ds =>
      rw [z] at q
      exact fun vs B2 H2 g2 r2 => q (v :: vs) B2 H2 g2 (.cons (r1.mono g2.b) r2)
  · exact .inr ⟨x, e1, q⟩
def big (n : Nat) : Bool := decide (n ≤ 16777216)
theorem big_ok {n : Nat} (h : big n = true) : n ≤ sizeLine := by
  have := of_decide_eq_true h
  rw [sizeLine_eq]
  exact this
def eTup (f : Env → M (List PyData)) : Env → M Sl := fun ρ => (f ρ).bind fun ds => if big ds.length = true then .ok (.dat (.tuple ds)) else .stuck
def eLst (f : Env → M (List PyData)) : Env → M Sl := fun ρ => (f ρ).bind fun ds => if big ds.length = true then .ok (.own (.list ds)) else .stuck
theorem run_a {f : Env → M (List PyData)} {t : TA} (h : ∀ B0 H0 B H σ ρ Q, ER X.K B0 H0 B H σ ρ → APost X.K E B H (f ρ) Q → t σ H Q)
    {B0 H0 B H : Hp} {σ : L2.St} {ρ : Env} {Q : List V → Hp → Prop} (r : ER X.K B0 H0 B H σ ρ) (hf : (∃ ds, f ρ = .ok ds ∧ ∀ vs B' H', Gr B H B' H' → RA X.K B' vs ds → Q vs H') ∨ ∃ x, f ρ = .exc x ∧ ∀ H', Ex H H' → E (.ref (He.ga X.K x)) none H') : t σ H Q := by
  rcases hf with ⟨b, e1, k⟩ | ⟨x, e1, k⟩
  · refine h B0 H0 B H σ ρ Q r ?_
    rw [e1]
    exact k
  · refine h B0 H0 B H σ ρ Q r ?_
    rw [e1]
    exact k
theorem de_tup {k : Nat} {f : Env → M (List PyData)} (h : DA X E es f) : DE X E (.Tuple es k pos) (eTup f) := by
  obtain ⟨t, p, h⟩ := h
  refine ⟨_, pe_tup p, fun B0 H0 B H σ ρ Q re q => ?_⟩
  refine run_a h re ?_
  rcases q.bind with ⟨ds, e1, q⟩ | ⟨x, e1, q⟩
  · refine .inl ⟨ds, e1, fun vs B1 H1 g1 r1 => ?_⟩
    have q := EPost.grow g1 q
    split at q
    · rename_i hb
      exact ⟨by rw [r1.length]; exact big_ok hb, fun p hp => q.new g1.s hp (.tup upd_same (r1.mono (.new (g1.s.back hp))))⟩
    · exact q.elim
  · exact .inr ⟨x, e1, q⟩
theorem de_lst {f : Env → M (List PyData)} (h : DA X E es f) : DE X E (.List es pos) (eLst f) := by
  obtain ⟨t, p, h⟩ := h
  refine ⟨_, pe_lst p, fun B0 H0 B H σ ρ Q re q => ?_⟩
  refine run_a h re ?_
  rcases q.bind with ⟨ds, e1, q⟩ | ⟨x, e1, q⟩
  · refine .inl ⟨ds, e1, fun vs B1 H1 g1 r1 => ?_⟩
    have q := EPost.grow g1 q
    split at q
    · rename_i hb
      exact ⟨by rw [r1.length]; exact big_ok hb, fun p hp => q.own g1.s hp (.lst r1)⟩
    · exact q.elim
  · exact .inr ⟨x, e1, q⟩
/-! ### calls -/
def eCall (g : List PyData → M Sl) (f : Env → M (List PyData)) : Env → M Sl := fun ρ => (f ρ).bind g
theorem run_call {r : List V → Hp → VK → Prop} {g : List PyData → M Sl} {f : Env → M (List PyData)} {t : TA} (hg : CallD X E r g)
    (h : ∀ B0 H0 B H σ ρ Q, ER X.K B0 H0 B H σ ρ → APost X.K E B H (f ρ) Q → t σ H Q) : ∀ B0 H0 B H σ ρ Q, ER X.K B0 H0 B H σ ρ → EPost X.K E B H (eCall g f ρ) Q → t σ H fun vs H1 => r vs H1 Q := by
  intro B0 H0 B H σ ρ Q re q
  refine run_a h re ?_
  rcases q.bind with ⟨ds, e1, q⟩ | ⟨x, e1, q⟩
  · exact .inl ⟨ds, e1, fun vs B1 H1 g1 r1 => hg vs ds B1 H1 Q g1.s r1 (q.grow g1)⟩
  · exact .inr ⟨x, e1, q⟩
theorem de_callB {x : Str} {p : Pos} {id : String} {r : List V → Hp → VK → Prop} {g : List PyData → M Sl} {f : Env → M (List PyData)} (hc : CallR X (.builtin id) r) (hg : CallD X E r g) (gl : Gl X x) (hm : X.mg x = none) (hv : bootBuiltins x = some (.builtin id)) (h : DA X E (e :: es) f)
    (hn : x ≠ "__name__" := by decide) (hdb : (x == ("__debug__" : Str)) = false := by decide) (he : starEach (e :: es) X.env = (false, eval e X.env) :: starEach es X.env := by rfl) (hpl : (backTo pos (starEach es X.env)).any (·.1) = false := by rfl) :
    DE X E (.Call (.Name x p) (e :: es) [] pos) (eCall g f) := by
  obtain ⟨t, pt, h⟩ := h
  exact ⟨_, pe_callB hc gl hm hv pt hn hdb he hpl, run_call hg h⟩
theorem de_callTy {x : Str} {p : Pos} {T : String} {r : List V → Hp → VK → Prop} {g : List PyData → M Sl} {f : Env → M (List PyData)} (hc : CallR X (.type T) r) (hg : CallD X E r g) (gl : Gl X x) (hm : X.mg x = none) (hv : bootBuiltins x = some (.type T)) (h : DA X E (e :: es) f)
    (hn : x ≠ "__name__" := by decide) (hdb : (x == ("__debug__" : Str)) = false := by decide) (he : starEach (e :: es) X.env = (false, eval e X.env) :: starEach es X.env := by rfl) (hpl : (backTo pos (starEach es X.env)).any (·.1) = false := by rfl) :
    DE X E (.Call (.Name x p) (e :: es) [] pos) (eCall g f) := by
  obtain ⟨t, pt, h⟩ := h
  exact ⟨_, pe_callTy hc gl hm hv pt hn hdb he hpl, run_call hg h⟩
/-- a def's promise, by data -/
def spD (K : PySem.W.Frag) (n : Nat) (g : List PyData → M Sl) : Sp := fun vs H Q E => vs.length = n ∧ ∃ ds B, Ex B H ∧ RA K B vs ds ∧ EPost K E B H (g ds) Q
theorem aCons_len {f : Env → M Sl} {g : Env → M (List PyData)} {n : Nat} (h : ∀ ρ ds, g ρ = .ok ds → ds.length = n) : ∀ ρ ds, aCons f g ρ = .ok ds → ds.length = n + 1 := by
  intro ρ ds e
  unfold aCons at e
  cases q : f ρ with
  | stuck => rw [q] at e; cases e
  | exc x => rw [q] at e; cases e
  | ok a =>
    rw [q, bind_ok] at e
    cases q2 : g ρ with
    | stuck => rw [q2] at e; cases e
    | exc x => rw [q2] at e; cases e
    | ok l =>
      rw [q2, bind_ok] at e
      cases e
      rw [List.length_cons, h ρ l q2]
theorem aNil_len : ∀ ρ ds, aNil ρ = .ok ds → ds.length = 0 := by
  intro ρ ds e
  cases e
  rfl
end
end Dl
/-! The data layer: statements, loops, comprehensions, defs. -/
namespace Dl
open PySem PySem.Spec PyProof.Rows L2
/-- what a statement does -/
inductive O where
  | stuck
  | exc (x : Str)
  | nx (ρ : Env)
  | rt (sl : Sl)
  | bk (ρ : Env)
  | ct (ρ : Env)
def SPost (K : PySem.W.Frag) (E : XK) (B0 H0 B : Hp) (D : Ends) (o : O) : Prop := match o with
  | .stuck => False
  | .exc x => ∀ H', Ex H0 H' → E (.ref (He.ga K x)) none H'
  | .nx ρ => ∀ B' H' σ', Ex B B' → ER K B0 H0 B' H' σ' ρ → D.nx σ' H'
  | .bk ρ => ∀ B' H' σ', Ex B B' → ER K B0 H0 B' H' σ' ρ → D.bk σ' H'
  | .ct ρ => ∀ B' H' σ', Ex B B' → ER K B0 H0 B' H' σ' ρ → D.ct σ' H'
  | .rt sl => ∀ v B' H', Gr B0 H0 B' H' → Res K H0 B' H' v sl → D.rt v H'
def DS (X : Cx) (E : XK) (st : Stmt) (f : Env → O) : Prop := ∃ t, PS X st t ∧ ∀ B0 H0 B H σ ρ D, ER X.K B0 H0 B H σ ρ → SPost X.K E B0 H0 B D (f ρ) → t D σ H
def DSs (X : Cx) (E : XK) (sts : List Stmt) (f : Env → O) : Prop := ∃ t, PSs X sts t ∧ ∀ B0 H0 B H σ ρ D, ER X.K B0 H0 B H σ ρ → SPost X.K E B0 H0 B D (f ρ) → t D σ H
theorem SPost.grow {K : PySem.W.Frag} {E : XK} {B0 H0 B B' : Hp} {D : Ends} {o : O} (e : Ex B B') (h : SPost K E B0 H0 B D o) : SPost K E B0 H0 B' D o := by
  cases o with
  | stuck => exact h
  | exc x => exact h
  | nx ρ => exact fun B2 H2 σ2 e2 r => h B2 H2 σ2 (e.trans e2) r
  | bk ρ => exact fun B2 H2 σ2 e2 r => h B2 H2 σ2 (e.trans e2) r
  | ct ρ => exact fun B2 H2 σ2 e2 r => h B2 H2 σ2 (e.trans e2) r
  | rt sl => exact h
/-- of an expression, then of what one does with its value -/
def oOf {α : Type} (r : M α) (k : α → O) : O := match r with
  | .stuck => .stuck
  | .exc x => .exc x
  | .ok a => k a
@[simp] theorem oOf_ok {α : Type} (a : α) (k : α → O) : oOf (.ok a) k = k a := rfl
@[simp] theorem oOf_exc {α : Type} (x : Str) (k : α → O) : oOf (.exc x : M α) k = .exc x := rfl
@[simp] theorem oOf_stuck {α : Type} (k : α → O) : oOf (.stuck : M α) k = .stuck := rfl
section
variable {X : Cx} {E : XK} {a b c e : Expr} {es : List Expr} {fa fb : Env → M Sl} {pos : Pos} {st : Stmt} {rest : List Stmt} {f g : Env → O}
/-- an expression's end, where its value may be one's own -/
theorem epost_of {K : PySem.W.Frag} {B0 H0 B H : Hp} {D : Ends} {σ : L2.St} {ρ : Env} {r : M Sl} {k : Sl → O} {Q : VK} (re : ER K B0 H0 B H σ ρ) (h : SPost K E B0 H0 B D (oOf r k))
    (hk : ∀ sl, r = .ok sl → SPost K E B0 H0 B D (k sl) → ∀ v B' H', Gr B H B' H' → Res K H B' H' v sl → Q v H') : EPost K E B H r Q := by
  cases r with
  | stuck => exact h.elim
  | exc x => exact fun H' e => h H' (re.gr.h.trans e)
  | ok sl => exact hk sl rfl h
theorem tpost_of {K : PySem.W.Frag} {B0 H0 B H : Hp} {D : Ends} {σ : L2.St} {ρ : Env} {r : M Bool} {k : Bool → O} {Q : Bool → Hp → Prop} (re : ER K B0 H0 B H σ ρ) (h : SPost K E B0 H0 B D (oOf r k))
    (hk : ∀ sl, r = .ok sl → SPost K E B0 H0 B D (k sl) → ∀ B' H', Gr B H B' H' → Q sl H') : TPost K E B H r Q := by
  cases r with
  | stuck => exact h.elim
  | exc x => exact fun H' e => h H' (re.gr.h.trans e)
  | ok sl => exact hk sl rfl h
def oSet (i : Nat) (fa : Env → M Sl) : Env → O := fun ρ => oOf (fa ρ) fun sl => .nx (ρ.set i (some sl))
theorem ds_set {i : Nat} {x : Str} {pos' : Pos} (hN : X.N.Nodup) (hi : X.N[i]? = some x) (hx : Loc X.env.scope x) (h : DE X E e fa) (hs : swapsWith e (some (.Name x pos')) pos.line X.env = pure false := by rfl) (hf : X.fn x = true ∨ X.env.scope.names.lookup x = some .local := by first | exact .inl rfl | exact .inr rfl | assumption) :
    DS X E (.Assign [.Name x pos'] e pos) (oSet i fa) := by
  obtain ⟨t, p, h⟩ := h
  refine ⟨_, ps_set hN hi hx p hs hf, fun B0 H0 B H σ ρ D re q => ?_⟩
  exact h B0 H0 B H σ ρ _ re (epost_of re q fun sl _ q v B' H' g r => q B' H' _ g.b (re.put g r))
def oExp (fa : Env → M Sl) : Env → O := fun ρ => oOf (fa ρ) fun _ => .nx ρ
def oRet (fa : Env → M Sl) : Env → O := fun ρ => oOf (fa ρ) .rt
theorem ds_ret (h : DE X E e fa) : DS X E (.Return (some e) pos) (oRet fa) := by
  obtain ⟨t, p, h⟩ := h
  refine ⟨_, ps_ret p, fun B0 H0 B H σ ρ D re q => ?_⟩
  exact h B0 H0 B H σ ρ _ re (epost_of re q fun sl _ q v B' H' g r => q v B' H' (re.gr.trans g) (r.later re.gr.h))
/-- return of a name that may be one's own -/
def oRetV (i : Nat) : Env → O := fun ρ => match ρ[i]? with
  | some (some sl) => .rt sl
  | _ => .stuck
theorem ds_retV (i : Nat) (h : PE X e (tVar i)) : DS X E (.Return (some e) pos) (oRetV i) := by
  refine ⟨_, ps_ret h, fun B0 H0 B H σ ρ D re q => ?_⟩
  unfold oRetV at q
  split at q
  · rename_i sl hd
    cases sl with
    | dat d =>
      obtain ⟨v, h1, h2⟩ := re.dat i d hd
      exact ⟨v, h1, q v B H re.gr h2⟩
    | own d =>
      obtain ⟨p, o, h1, h2, h3, h4, h5⟩ := re.own i d hd
      exact ⟨_, h1, q _ B H re.gr ⟨p, o, rfl, h2, h3, h4, h5⟩⟩
  · exact q.elim
def oRetN : Env → O := fun _ => .rt (.dat .none)
def oNx : Env → O := fun ρ => .nx ρ
def oBk : Env → O := fun ρ => .bk ρ
def oCt : Env → O := fun ρ => .ct ρ
theorem ds_continue : DS X E (.Continue pos) oCt := ⟨_, ps_continue, fun B0 H0 B H σ ρ D re q => q B H σ (.refl _) re⟩
def oSeq (f g : Env → O) : Env → O := fun ρ => match f ρ with
  | .nx ρ' => g ρ'
  | o => o
theorem dss_nil : DSs X E [] oNx := ⟨_, pss_nil, fun B0 H0 B H σ ρ D re q => q B H σ (.refl _) re⟩
theorem dss_one (h : DS X E st f) : DSs X E [st] f := let ⟨_, p, h⟩ := h; ⟨_, pss_one p, h⟩
theorem dss_cons (h : DS X E st f) (k : DSs X E rest g) : DSs X E (st :: rest) (oSeq f g) := by
  obtain ⟨t, p, h⟩ := h
  obtain ⟨u, pu, k⟩ := k
  refine ⟨_, pss_cons p pu, fun B0 H0 B H σ ρ D re q => ?_⟩
  refine h B0 H0 B H σ ρ _ re ?_
  unfold oSeq at q
  cases z : f ρ with
  | nx ρ' =>
    rw [z] at q
    exact fun B' H' σ' e r => k B0 H0 B' H' σ' ρ' D r (SPost.grow e q)
  | stuck => rw [z] at q; exact q
  | exc x => rw [z] at q; exact q
  | rt sl => rw [z] at q; exact q
  | bk ρ' => rw [z] at q; exact q
  | ct ρ' => rw [z] at q; exact q
/-- slots fixed ahead of a statement -/
def fixs (ρ : Env) : List Nat → Env
  | [] => ρ
  | i :: l => fixs (ρ.fix i) l
theorem ER.fixs {K : PySem.W.Frag} {B0 H0 H : Hp} {σ : L2.St} : ∀ (l : List Nat) {B : Hp} {ρ : Env}, ER K B0 H0 B H σ ρ → ∃ B2, (∀ a o, B2 a = some o → B a = some o ∨ Own o) ∧ Ex B B2 ∧ ER K B0 H0 B2 H σ (fixs ρ l)
  | [], B, ρ, r => ⟨B, fun a o h => .inl h, .refl _, r⟩
  | i :: l, B, ρ, r => by
    obtain ⟨B1, n1, e1, r1⟩ := r.fix (i := i)
    obtain ⟨B2, n2, e2, r2⟩ := ER.fixs l r1
    exact ⟨B2, fun a o h => (n2 a o h).elim (n1 a o) .inr, e1.trans e2, r2⟩
def oFix (l : List Nat) (f : Env → O) : Env → O := fun ρ => f (fixs ρ l)
theorem ds_fix (l : List Nat) (h : DS X E st f) : DS X E st (oFix l f) := by
  obtain ⟨t, p, h⟩ := h
  refine ⟨t, p, fun B0 H0 B H σ ρ D re q => ?_⟩
  obtain ⟨B2, _, e, r⟩ := re.fixs l
  exact h B0 H0 B2 H σ _ D r (SPost.grow e q)
def oIf (t : Env → M Bool) (f g : Env → O) : Env → O := fun ρ => oOf (t ρ) fun b => if b = true then f ρ else g ρ
theorem ds_if {c : Expr} {x y : List Stmt} {t : Env → M Bool} (h : DT X E c t) (hf : DSs X E x f) (hg : DSs X E y g) : DS X E (.If c x y pos) (oIf t f g) := by
  obtain ⟨u, p, h⟩ := h
  obtain ⟨tf, pf, hf⟩ := hf
  obtain ⟨tg, pg, hg⟩ := hg
  refine ⟨_, ps_if p pf pg, fun B0 H0 B H σ ρ D re q => ?_⟩
  refine h B0 H0 B H σ ρ _ re (tpost_of re q fun b _ q B' H' g1 => ?_)
  cases b with
  | true => exact hf B0 H0 B' H' σ ρ D (re.grow g1) (SPost.grow g1.b q)
  | false => exact hg B0 H0 B' H' σ ρ D (re.grow g1) (SPost.grow g1.b q)
/-! ### targets -/
/-- only the slots sl differ -/
def OnlyAt (sl : List Nat) (σ σ' : L2.St) : Prop := ∀ vs : List Nat, (∀ i ∈ sl, i ∈ vs) → wipe σ' vs = wipe σ vs
theorem OnlyAt.refl {sl : List Nat} {σ : L2.St} : OnlyAt sl σ σ := fun _ _ => rfl
theorem OnlyAt.trans {sl sl' : List Nat} {σ σ' σ2 : L2.St} (a : OnlyAt sl σ σ') (b : OnlyAt sl' σ' σ2) : OnlyAt (sl ++ sl') σ σ2 := fun vs h =>
  (b vs fun i hi => h i (List.mem_append_right _ hi)).trans (a vs fun i hi => h i (List.mem_append_left _ hi))
theorem wipe_none {σ : L2.St} : ∀ {vs : List Nat} {i : Nat}, i ∈ vs → (wipe σ vs)[i]? = some none ∨ (wipe σ vs).length ≤ i
  | v :: vs, i, h => by
    unfold wipe
    by_cases z : v = i
    · subst z
      by_cases l : v < (wipe σ vs).length
      · exact .inl (List.getElem?_set_self l)
      · exact .inr (by rw [List.length_set]; omega)
    · rcases List.mem_cons.mp h with e | h
      · exact absurd e.symm z
      · rw [List.getElem?_set_ne z, List.length_set]
        exact wipe_none h
theorem wipe_not {σ : L2.St} : ∀ {vs : List Nat} {i : Nat}, i ∉ vs → (wipe σ vs)[i]? = σ[i]?
  | [], _, _ => rfl
  | v :: vs, i, h => by
    unfold wipe
    rw [List.getElem?_set_ne (fun (e : v = i) => h (by rw [e]; exact List.mem_cons_self)), wipe_not fun q => h (List.mem_cons_of_mem _ q)]
theorem OnlyAt.set {i : Nat} {σ : L2.St} {x : Option V} : OnlyAt [i] σ (σ.set i x) := fun vs h => by
  have hi := h i List.mem_cons_self
  refine List.ext_getElem? fun j => ?_
  by_cases hj : j ∈ vs
  · rcases wipe_none (σ := σ) hj with e | e
    · rcases wipe_none (σ := σ.set i x) hj with e2 | e2
      · rw [e, e2]
      · rw [wipe_length, List.length_set] at e2
        rw [List.getElem?_eq_none (by rw [wipe_length, List.length_set]; exact e2), List.getElem?_eq_none (by rw [wipe_length]; exact e2)]
    · rw [wipe_length] at e
      rw [List.getElem?_eq_none (by rw [wipe_length, List.length_set]; exact e), List.getElem?_eq_none (by rw [wipe_length]; exact e)]
  · rw [wipe_not hj, wipe_not hj, List.getElem?_set_ne (fun (e : i = j) => hj (by rw [← e]; exact hi))]
def DG (X : Cx) (tg : Expr) (sl : List Nat) (bd : PyData → Env → M Env) : Prop := ∃ t, PG X tg t ∧ ∀ B0 H0 B H σ ρ v d ρ' (Q : L2.St → Hp → Prop), ER X.K B0 H0 B H σ ρ → R X.K B v d → bd d ρ = .ok ρ' → (∀ σ', ER X.K B0 H0 B H σ' ρ' → OnlyAt sl σ σ' → Q σ' H) → t v σ H Q
def DGs (X : Cx) (tgs : List Expr) (sl : List Nat) (bd : List PyData → Env → M Env) : Prop := ∃ t, PGs X tgs t ∧ ∀ B0 H0 B H σ ρ vs ds ρ' (Q : L2.St → Hp → Prop), ER X.K B0 H0 B H σ ρ → RA X.K B vs ds → bd ds ρ = .ok ρ' → (∀ σ', ER X.K B0 H0 B H σ' ρ' → OnlyAt sl σ σ' → Q σ' H) → t vs σ H Q
def bN (i : Nat) : PyData → Env → M Env := fun d ρ => .ok (ρ.set i (some (.dat d)))
theorem dg_name {i : Nat} {x : Str} (hN : X.N.Nodup) (hi : X.N[i]? = some x) (hx : Loc X.env.scope x) (hf : X.fn x = true ∨ X.env.scope.names.lookup x = some .local := by first | exact .inl rfl | exact .inr rfl | assumption) : DG X (.Name x pos) [i] (bN i) := by
  refine ⟨_, pg_name hN hi hx hf, fun B0 H0 B H σ ρ v d ρ' Q re r e k => ?_⟩
  cases e
  exact k _ (re.put (.refl re.gr.s) (sl := .dat d) r) .set
def bNil : List PyData → Env → M Env := fun ds ρ => match ds with
  | [] => .ok ρ
  | _ => .stuck
def bCons (t : PyData → Env → M Env) (u : List PyData → Env → M Env) : List PyData → Env → M Env := fun ds ρ => match ds with
  | d :: ds => (t d ρ).bind (u ds)
  | [] => .stuck
theorem dgs_nil : DGs X [] [] bNil := by
  refine ⟨_, pgs_nil, fun B0 H0 B H σ ρ vs ds ρ' Q re r e k => ?_⟩
  cases r with
  | nil =>
    cases e
    exact ⟨rfl, k σ re .refl⟩
  | cons _ _ => cases e
theorem dgs_cons {tg : Expr} {tgs : List Expr} {t : PyData → Env → M Env} {u : List PyData → Env → M Env} {l1 l2 : List Nat} (h : DG X tg l1 t) (k : DGs X tgs l2 u) (hs : (assignEach (tg :: tgs) X.env).map (·.2) = assign tg X.env :: (assignEach tgs X.env).map (·.2) := by rfl) : DGs X (tg :: tgs) (l1 ++ l2) (bCons t u) := by
  obtain ⟨tt, p, h⟩ := h
  obtain ⟨tu, pu, k⟩ := k
  refine ⟨_, pgs_cons p pu hs, fun B0 H0 B H σ ρ vs ds ρ' Q re r e q => ?_⟩
  cases r with
  | nil => cases e
  | cons r1 r2 =>
    rename_i v vs d ds
    unfold bCons at e
    simp only at e
    cases z : t d ρ with
    | stuck => rw [z] at e; cases e
    | exc x => rw [z] at e; cases e
    | ok ρ1 =>
      rw [z, bind_ok] at e
      exact ⟨v, vs, rfl, h B0 H0 B H σ ρ v d ρ1 _ re r1 z fun σ1 re1 o1 => k B0 H0 B H σ1 ρ1 vs ds ρ' Q re1 r2 e fun σ2 re2 o2 => q σ2 re2 (o1.trans o2)⟩
def bTup (n : Nat) (u : List PyData → Env → M Env) : PyData → Env → M Env := fun d ρ => match d with
  | .tuple ds => if ds.length = n then u ds ρ else .stuck
  | _ => .stuck
theorem dg_tup {tgs : List Expr} {k n : Nat} {sl : List Nat} {u : List PyData → Env → M Env} (hc : X.calm = true) (h : DGs X tgs sl u) (hn : (assignEach tgs X.env).length = n := by rfl) (hst : (assignEach tgs X.env).findIdx? (·.1) = none := by rfl) : DG X (.Tuple tgs k pos) sl (bTup n u) := by
  obtain ⟨t, p, h⟩ := h
  refine ⟨_, pg_tup hc p hn hst, fun B0 H0 B H σ ρ v d ρ' Q re r e q => ?_⟩
  unfold bTup at e
  split at e
  · rename_i ds
    split at e
    · rename_i hl
      cases r with
      | tup hs ra => exact ⟨_, _, rfl, ex_u re.gr.s hs, by rw [ra.length]; exact hl, h B0 H0 B H σ ρ _ ds ρ' Q re ra e q⟩
    · cases e
  · cases e
/-- a, b = e -/
def oAsg (fa : Env → M Sl) (bd : PyData → Env → M Env) : Env → O := fun ρ => oOf (fa ρ) fun sl => oOf (bd sl.d ρ) .nx
theorem ds_asg {tg : Expr} {sl : List Nat} {bd : PyData → Env → M Env} (h : DE X E e fa) (hg : DG X tg sl bd) (hs : swapsWithSole [tg] e pos.line X.env = pure false := by rfl) (hw : swappedStores [tg] e X.env = pure none := by rfl)
    (h1 : (assignEach [tg] X.env).map (·.2) = [assign tg X.env] := by rfl) (hb : ∀ d ρ x, bd d ρ ≠ .exc x) : DS X E (.Assign [tg] e pos) (oAsg fa bd) := by
  obtain ⟨t, p, h⟩ := h
  obtain ⟨g, pg, hg⟩ := hg
  refine ⟨_, ps_asg p pg hs hw h1, fun B0 H0 B H σ ρ D re q => ?_⟩
  refine h B0 H0 B H σ ρ _ re (epost_of re q fun sl _ q v B' H' g1 r => ?_)
  obtain ⟨B2, g2, r2⟩ := r.fix g1
  cases z : bd sl.d ρ with
  | stuck => rw [z] at q; exact q.elim
  | exc x => exact (hb _ _ _ z).elim
  | ok ρ1 =>
    rw [z] at q
    exact hg B0 H0 B2 H' σ ρ v sl.d ρ1 _ (re.grow g2) r2 z fun σ1 re1 _ => q B2 H' σ1 g2.b re1
theorem bN_ne {i : Nat} : ∀ d ρ x, bN i d ρ ≠ .exc x := fun _ _ _ h => by cases h
theorem bNil_ne : ∀ d ρ x, bNil d ρ ≠ .exc x := fun d _ _ h => by cases d <;> cases h
theorem bCons_ne {t : PyData → Env → M Env} {u : List PyData → Env → M Env} (ht : ∀ d ρ x, t d ρ ≠ .exc x) (hu : ∀ d ρ x, u d ρ ≠ .exc x) : ∀ d ρ x, bCons t u d ρ ≠ .exc x := fun ds ρ x h => by
  cases ds with
  | nil => cases h
  | cons d ds =>
    unfold bCons at h
    simp only at h
    cases z : t d ρ with
    | stuck => rw [z] at h; cases h
    | exc y => exact ht _ _ _ z
    | ok ρ1 =>
      rw [z, bind_ok] at h
      exact hu _ _ _ h
theorem bTup_ne {n : Nat} {u : List PyData → Env → M Env} (hu : ∀ d ρ x, u d ρ ≠ .exc x) : ∀ d ρ x, bTup n u d ρ ≠ .exc x := fun d ρ x h => by
  unfold bTup at h
  split at h
  · split at h
    · exact hu _ _ _ h
    · cases h
  · cases h
/-! ### what is walked -/
/-- n items, each at its turn the data ds[i] -/
def Wlk (K : PySem.W.Frag) (B : Hp) (J : It) (ds : List PyData) : Prop := ∃ G Y, Walk J ds.length G Y ∧ (∀ B1 H1, Ex B B1 → Ex B1 H1 → G H1) ∧
  ∀ (i : Nat) B1 H1 v H2, i < ds.length → Ex B B1 → Ex B1 H1 → Y i H1 v H2 → ∃ B2 d, ds[i]? = some d ∧ Gr B1 H1 B2 H2 ∧ R K B2 v d
def IPost (K : PySem.W.Frag) (E : XK) (B H : Hp) (r : M (List PyData)) (Q : It → Hp → Prop) : Prop := match r with
  | .stuck => False
  | .exc x => ∀ H', Ex H H' → E (.ref (He.ga K x)) none H'
  | .ok ds => ∀ J B' H', Gr B H B' H' → Wlk K B' J ds → Q J H'
def DI (X : Cx) (E : XK) (tg iter : Expr) (f : Env → M (List PyData)) : Prop := ∃ wi, PI X tg iter wi ∧ ∀ B0 H0 B H σ ρ Q, ER X.K B0 H0 B H σ ρ → IPost X.K E B H (f ρ) Q → wi σ H Q
theorem IPost.grow {K : PySem.W.Frag} {B H B' H' : Hp} {r : M (List PyData)} {Q : It → Hp → Prop} (g : Gr B H B' H') (h : IPost K E B H r Q) : IPost K E B' H' r Q := by
  cases r with
  | stuck => exact h
  | exc x => exact fun H2 e => h H2 (g.h.trans e)
  | ok sl => exact fun v B2 H2 g2 q => h v B2 H2 (g.trans g2) q
theorem IPost.bind {K : PySem.W.Frag} {B H : Hp} {α : Type} {r : M α} {g : α → M (List PyData)} {Q : It → Hp → Prop} (h : IPost K E B H (r.bind g) Q) : (∃ a, r = .ok a ∧ IPost K E B H (g a) Q) ∨ ∃ x, r = .exc x ∧ ∀ H', Ex H H' → E (.ref (He.ga K x)) none H' := by
  cases r with
  | stuck => exact h.elim
  | exc x => exact .inr ⟨x, rfl, h⟩
  | ok a => exact .inl ⟨a, rfl, h⟩
/-- for -/
def oFor (bd : PyData → Env → M Env) (body : Env → O) : List PyData → Env → O
  | [], ρ => .nx ρ
  | d :: ds, ρ => oOf (bd d ρ) fun ρ1 => match body ρ1 with
    | .nx ρ2 => oFor bd body ds ρ2
    | .ct ρ2 => oFor bd body ds ρ2
    | .bk ρ2 => .nx ρ2
    | .rt sl => .rt sl
    | .exc x => .exc x
    | .stuck => .stuck
def oForE (fi : Env → M (List PyData)) (bd : PyData → Env → M Env) (body : Env → O) : Env → O := fun ρ => oOf (fi ρ) fun ds => oFor bd body ds ρ
theorem ipost_of {K : PySem.W.Frag} {B0 H0 B H : Hp} {D : Ends} {σ : L2.St} {ρ : Env} {r : M (List PyData)} {k : List PyData → O} {Q : It → Hp → Prop} (re : ER K B0 H0 B H σ ρ) (h : SPost K E B0 H0 B D (oOf r k))
    (hk : ∀ sl, r = .ok sl → SPost K E B0 H0 B D (k sl) → ∀ J B' H', Gr B H B' H' → Wlk K B' J sl → Q J H') : IPost K E B H r Q := by
  cases r with
  | stuck => exact h.elim
  | exc x => exact fun H' e => h H' (re.gr.h.trans e)
  | ok sl => exact hk sl rfl h
theorem ds_for {tg iter : Expr} {sl : List Nat} {body : List Stmt} {fi : Env → M (List PyData)} {bd : PyData → Env → M Env} (hp : PassesOwn (model X.prog X.w) X.A X.env X.xe) (hc : X.calm = true) (hi : DI X E tg iter fi) (hg : DG X tg sl bd) (hb : DSs X E body f) (hne : ∀ d ρ x, bd d ρ ≠ .exc x)
    (hs : ∀ x, foldedSetIterable iter X.env x = pure x := by intro _; rfl) : DS X E (.For tg iter body [] pos) (oForE fi bd f) := by
  obtain ⟨wi, pi, hi⟩ := hi
  obtain ⟨g, pg, hg⟩ := hg
  obtain ⟨tb, pb, hb⟩ := hb
  refine ⟨_, ps_for hp hc pi pg pb hs, fun B0 H0 B H σ ρ D re q => ?_⟩
  refine hi B0 H0 B H σ ρ _ re (ipost_of re q fun ds _ q J B1 H1 g1 w => ?_)
  obtain ⟨G, Y, w, hG, hY⟩ := w
  refine for_it w (fun i σ' H' => ∃ B' ρ', ER X.K B0 H0 B' H' σ' ρ' ∧ Ex B1 B' ∧ SPost X.K E B0 H0 B' D (oFor bd f (ds.drop i) ρ')) ⟨B1, ρ, re.grow g1, .refl _, SPost.grow g1.b q⟩ (fun i σ' H' _ ⟨B', ρ', r, e, _⟩ => hG B' H' e r.gr.s) ?_ ?_
  · rintro i v σ' H2 H3 hlt ⟨B', ρ', r, e, s⟩ y
    obtain ⟨B2, d, hd, g2, rv⟩ := hY i B' H2 v H3 hlt e r.gr.s y
    have r2 := r.grow g2
    have hdr : ds.drop i = d :: ds.drop (i + 1) := by
      have hh : i < ds.length := hlt
      rw [List.getElem?_eq_getElem hh] at hd
      cases hd
      exact List.drop_eq_getElem_cons hh
    rw [hdr] at s
    unfold oFor at s
    cases z : bd d ρ' with
    | stuck => rw [z] at s; exact s.elim
    | exc x => exact (hne _ _ _ z).elim
    | ok ρ1 =>
      rw [z, oOf_ok] at s
      refine hg B0 H0 B2 H3 σ' ρ' v d ρ1 _ r2 rv z fun σ1 re1 _ => ?_
      refine hb B0 H0 B2 H3 σ1 ρ1 _ re1 ?_
      have s := SPost.grow g2.b s
      cases zb : f ρ1 with
      | nx ρ2 =>
        rw [zb] at s
        exact fun B4 H4 σ4 e4 r4 => ⟨B4, ρ2, r4, e.trans (g2.b.trans e4), SPost.grow e4 s⟩
      | ct ρ2 =>
        rw [zb] at s
        exact fun B4 H4 σ4 e4 r4 => ⟨B4, ρ2, r4, e.trans (g2.b.trans e4), SPost.grow e4 s⟩
      | bk ρ2 =>
        rw [zb] at s
        exact s
      | rt sl =>
        rw [zb] at s
        exact s
      | exc x =>
        rw [zb] at s
        exact s
      | stuck =>
        rw [zb] at s
        exact s
  · rintro σ' H2 ⟨B', ρ', r, e, s⟩
    rw [List.drop_length] at s
    exact s B' H2 σ' (.refl _) r
/-! ### while, with a number of turns that is enough -/
def oWhile (t : Env → M Bool) (body : Env → O) : Nat → Env → O
  | 0, _ => .stuck
  | n + 1, ρ => oOf (t ρ) fun b => if b = true then (match body ρ with
    | .nx ρ2 => oWhile t body n ρ2
    | .ct ρ2 => oWhile t body n ρ2
    | .bk ρ2 => .nx ρ2
    | .rt sl => .rt sl
    | .exc x => .exc x
    | .stuck => .stuck) else .nx ρ
end
end Dl
/-! The data layer: while, comprehensions, one's own lists read and changed, defs. -/
namespace Dl
open PySem PySem.Spec PyProof.Rows L2
section
variable {X : Cx} {E : XK} {a b c e : Expr} {es : List Expr} {fa fb : Env → M Sl} {pos : Pos} {st : Stmt} {rest : List Stmt} {f g : Env → O}
/-! ### while -/
theorem ds_while (n : Nat) {c : Expr} {body : List Stmt} {t : Env → M Bool} (hp : PassesOwn (model X.prog X.w) X.A X.env X.xe) (h : DT X E c t) (hb : DSs X E body f) : DS X E (.While c body [] pos) (oWhile t f n) := by
  obtain ⟨tt, p, h⟩ := h
  obtain ⟨tb, pb, hb⟩ := hb
  refine ⟨_, ps_while hp p pb, fun B0 H0 B H σ ρ D re q => ?_⟩
  refine ⟨fun m σ' H' => ∃ B' ρ', ER X.K B0 H0 B' H' σ' ρ' ∧ SPost X.K E B0 H0 B' D (oWhile t f m ρ'), ⟨n, B, ρ, re, q⟩, ?_⟩
  rintro m σ' H' ⟨B', ρ', r, s⟩
  cases m with
  | zero => exact s.elim
  | succ m =>
    unfold oWhile at s
    refine h B0 H0 B' H' σ' ρ' _ r (tpost_of r s fun bb _ s B2 H2 g2 => ?_)
    cases bb with
    | false => exact s B2 H2 σ' g2.b (r.grow g2)
    | true =>
      refine iteT ⟨fun σ3 H3 => ∃ m', m' < m + 1 ∧ ∃ B3 ρ3, ER X.K B0 H0 B3 H3 σ3 ρ3 ∧ SPost X.K E B0 H0 B3 D (oWhile t f m' ρ3), fun σ3 H3 z => z, ?_⟩
      refine hb B0 H0 B2 H2 σ' ρ' _ (r.grow g2) ?_
      have s := SPost.grow g2.b s
      rw [if_pos rfl] at s
      cases zb : f ρ' with
      | nx ρ2 =>
        rw [zb] at s
        exact fun B4 H4 σ4 e4 r4 => ⟨m, Nat.lt_succ_self m, B4, ρ2, r4, SPost.grow e4 s⟩
      | ct ρ2 =>
        rw [zb] at s
        exact fun B4 H4 σ4 e4 r4 => ⟨m, Nat.lt_succ_self m, B4, ρ2, r4, SPost.grow e4 s⟩
      | bk ρ2 =>
        rw [zb] at s
        exact s
      | rt sl =>
        rw [zb] at s
        exact s
      | exc x =>
        rw [zb] at s
        exact s
      | stuck =>
        rw [zb] at s
        exact s
/-! ### data that no store changes -/
mutual
def imm : PyData → Bool
  | .none => true
  | .bool _ => true
  | .int _ => true
  | .str _ => true
  | .tuple xs => immA xs
  | .list _ => false
  | .dict _ => false
def immA : List PyData → Bool
  | [] => true
  | x :: xs => imm x && immA xs
end
section
variable {K : PySem.W.Frag} {B B' : Hp}
mutual
theorem R.immR (h : ∀ a o, B a = some o → B' a = some o ∨ Own o) : ∀ {v : V} {d : PyData}, R K B v d → imm d = true → R K B' v d
  | _, _, .non, _ => .non
  | _, _, .bl b, _ => .bl b
  | _, _, .int i, _ => .int i
  | _, _, .str x, _ => .str x
  | _, _, .lst _ _, i => by simp [imm] at i
  | _, _, .tup hs r, i => by
    refine .tup ?_ (RA.immR h r (by simpa [imm] using i))
    exact (h _ _ hs).elim id False.elim
  | _, _, .tupF _ _, i => by simp [imm] at i
  | _, _, .dK _ _, i => by simp [imm] at i
  | _, _, .dT _ _, i => by simp [imm] at i
  | _, _, .ins _ _, i => by simp [imm] at i
  | _, _, .scr _, i => by simp [imm] at i
theorem RA.immR (h : ∀ a o, B a = some o → B' a = some o ∨ Own o) : ∀ {vs : List V} {ds : List PyData}, RA K B vs ds → immA ds = true → RA K B' vs ds
  | _, _, .nil, _ => .nil
  | _, _, .cons r q, i => by
    rw [immA, Bool.and_eq_true] at i
    exact .cons (R.immR h r i.1) (RA.immR h q i.2)
end
end
def immSl : Sl → Bool
  | .dat d => imm d
  | .own (.list ds) => immA ds
  | .own _ => false
/-! ### an expression that reads one's own objects -/
def pubM (r : M Sl) : M Sl := match r with
  | .ok sl => if immSl sl = true then .ok sl else .stuck
  | r => r
def fixAll (ρ : Env) : Env := fixs ρ (List.range ρ.length)
def ePub (f : Env → M Sl) : Env → M Sl := fun ρ => pubM (f (fixAll ρ))
def tPub (f : Env → M Bool) : Env → M Bool := fun ρ => f (fixAll ρ)
open Classical in
/-- back from the heap where all is fixed -/
theorem back_of2 {Z : HO → Prop} {B B2 H B3 H3 : Hp} (e : Ex B B2) (s2 : Ex B2 H) (n : ∀ a o, B2 a = some o → B a = some o ∨ Z o) (g : Gr B2 H B3 H3) : ∃ B', Gr B H B' H3 ∧ (∀ a o, B3 a = some o → B' a = some o ∨ Z o) ∧ ∀ a, H a = none → B' a = B3 a := by
  have some_ne : ∀ a o, H a = some o → (∀ xs, o ≠ .tup xs) → ¬ (H a = none ∨ ∃ xs, H a = some (.tup xs)) := fun a o h t z => by
    rcases z with z | ⟨xs, z⟩
    · rw [z] at h; cases h
    · rw [z] at h; cases h; exact t _ rfl
  have isT : ∀ o : HO, (∃ xs, o = .tup xs) ∨ ∀ xs, o ≠ .tup xs := fun o => by
    cases o <;> first | exact .inl ⟨_, rfl⟩ | exact .inr fun _ h => nomatch h
  refine ⟨fun a => if H a = none ∨ ∃ xs, H a = some (.tup xs) then B3 a else B a, ⟨fun a o h => ?_, g.h, fun a o h => ?_, fun a o h z => ?_⟩, fun a o h => ?_, fun a h => ?_⟩
  · show (if _ then B3 a else B a) = some o
    split
    · exact g.b a o (e a o h)
    · exact h
  · have h : (if H a = none ∨ ∃ xs, H a = some (.tup xs) then B3 a else B a) = some o := h
    split at h
    · exact g.s a o h
    · exact g.s a o (g.b a o (e a o h))
  · rcases isT o with t | t
    · exact .inr t
    · refine .inl ?_
      show (if _ then B3 a else B a) = none
      rw [if_neg (some_ne a o h t)]
      exact z
  · show (if _ then B3 a else B a) = some o ∨ _
    split
    · exact .inl h
    · rename_i hn
      cases q : B2 a with
      | none =>
        cases z : H a with
        | none => exact absurd (.inl z) hn
        | some u =>
          rw [g.lm z q fun xs e => hn (.inr ⟨xs, by rw [z, e]⟩)] at h
          cases h
      | some u =>
        have k := g.b a u q
        rw [h] at k
        cases k
        exact n a o q
  · show (if _ then B3 a else B a) = B3 a
    rw [if_pos (.inl h)]
theorem back_of {B B2 H B3 H3 : Hp} (e : Ex B B2) (s2 : Ex B2 H) (n : ∀ a o, B2 a = some o → B a = some o ∨ Own o) (g : Gr B2 H B3 H3) : ∃ B', Gr B H B' H3 ∧ (∀ a o, B3 a = some o → B' a = some o ∨ Own o) ∧ ∀ a, H a = none → B' a = B3 a := back_of2 e s2 n g
theorem de_pub (h : DE X E e fa) : DE X E e (ePub fa) := by
  obtain ⟨t, p, h⟩ := h
  refine ⟨t, p, fun B0 H0 B H σ ρ Q re q => ?_⟩
  obtain ⟨B2, n, ex, r2⟩ := re.fixs (List.range ρ.length)
  refine h B0 H0 B2 H σ _ Q r2 ?_
  unfold ePub at q
  have q : EPost X.K E B H (pubM (fa (fixs ρ (List.range ρ.length)))) Q := q
  cases z : fa (fixs ρ (List.range ρ.length)) with
  | stuck => rw [z] at q; exact q.elim
  | exc x => rw [z] at q; exact q
  | ok sl =>
    rw [z] at q
    unfold pubM at q
    simp only at q
    split at q
    · rename_i hi
      intro v B3 H3 g r
      obtain ⟨B', g', n', e'⟩ := back_of ex r2.gr.s n g
      refine q v B' H3 g' ?_
      cases sl with
      | dat d => exact r.immR n' hi
      | own d =>
        obtain ⟨p, o, h1, h2, h3, h4, h5⟩ := r
        refine ⟨p, o, h1, h2, by rw [e' p h2]; exact h3, h4, ?_⟩
        cases h5 with
        | lst ra => exact .lst (ra.immR n' hi)
        | dK ra => cases hi
        | dT ra => cases hi
    · exact q.elim
theorem dt_pub {c : Expr} {t : Env → M Bool} (h : DT X E c t) : DT X E c (tPub t) := by
  obtain ⟨u, p, h⟩ := h
  refine ⟨u, p, fun B0 H0 B H σ ρ Q re q => ?_⟩
  obtain ⟨B2, n, ex, r2⟩ := re.fixs (List.range ρ.length)
  refine h B0 H0 B2 H σ _ Q r2 ?_
  unfold tPub at q
  have q : TPost X.K E B H (t (fixs ρ (List.range ρ.length))) Q := q
  cases z : t (fixs ρ (List.range ρ.length)) with
  | stuck => rw [z] at q; exact q.elim
  | exc x => rw [z] at q; exact q
  | ok b =>
    rw [z] at q
    intro B3 H3 g
    obtain ⟨B', g', _, _⟩ := back_of ex r2.gr.s n g
    exact q B' H3 g'
theorem ER.own_put {K : PySem.W.Frag} {B0 H0 B H : Hp} {σ : L2.St} {ρ : Env} {i : Nat} {d d' : PyData} {p : Addr} {o o' : HO} (r : ER K B0 H0 B H σ ρ) (hi : ρ[i]? = some (some (.own d))) (hs : σ[i]? = some (some (.ref p))) (ho : H p = some o) (hb : B p = none) (h0 : H0 p = none) (t : Top K B o' d') :
    ER K B0 H0 B (upd H p o') σ (ρ.set i (some (.own d'))) := by
  have hl : i < ρ.length := (List.getElem?_eq_some_iff.mp hi).1
  have ne : ∀ a u, H0 a = some u → a ≠ p := fun a u h z => by rw [z, h0] at h; cases h
  have nb : ∀ a u, B a = some u → a ≠ p := fun a u h z => by rw [z, hb] at h; cases h
  refine ⟨⟨r.gr.b, fun a u h => by rw [upd_ne (ne a u h)]; exact r.gr.h a u h, fun a u h => by rw [upd_ne (nb a u h)]; exact r.gr.s a u h, r.gr.l⟩, by rw [List.length_set]; exact r.len, fun j c e => ?_, fun j c e => ?_, fun j k c c' q e1 e2 e3 e4 => ?_⟩
  · by_cases z : i = j
    · subst z
      rw [List.getElem?_set_self hl] at e
      cases e
    · rw [List.getElem?_set_ne z] at e
      exact r.dat j c e
  · by_cases z : i = j
    · subst z
      rw [List.getElem?_set_self hl] at e
      cases e
      exact ⟨p, o', hs, h0, hb, upd_same, t⟩
    · rw [List.getElem?_set_ne z] at e
      obtain ⟨p2, o2, k1, k2, k3, k4, k5⟩ := r.own j c e
      have hp : p2 ≠ p := fun zz => z (r.sep i j d c p hi e hs (by rw [← zz]; exact k1))
      exact ⟨p2, o2, k1, k2, k3, by rw [upd_ne hp]; exact k4, k5⟩
  · have own_at : ∀ (j : Nat) c, (ρ.set i (some (.own d')))[j]? = some (some (.own c)) → ∃ c2, ρ[j]? = some (some (.own c2)) := by
      intro j c e
      by_cases z : i = j
      · subst z
        exact ⟨d, hi⟩
      · rw [List.getElem?_set_ne z] at e
        exact ⟨c, e⟩
    obtain ⟨c1, f1⟩ := own_at j c e1
    obtain ⟨c2, f2⟩ := own_at k c' e2
    exact r.sep j k c1 c2 q f1 f2 e3 e4
/-! ### one's own list changed by a method -/
/-- by data: a method that changes its list -/
def MutU (X : Cx) (r : V → List V → Hp → VK → Prop) (g : List PyData → List PyData → Option (List PyData × PyData)) : Prop :=
  ∀ p vs l xs ds l' d B H (Q : VK), H p = some (.lst vs) → Ex B H → RA X.K B vs l → RA X.K B xs ds → g l ds = some (l', d) → (∀ vs' y, RA X.K B vs' l' → R X.K B y d → Q y (upd H p (.lst vs'))) → r (.ref p) xs H Q
def gAppend (l ds : List PyData) : Option (List PyData × PyData) := match ds with
  | [d] => if big (l.length + 1) = true then some (l ++ [d], .none) else none
  | _ => none
theorem mut_append : MutU X rAppend gAppend := by
  intro p vs l xs ds l' d B H Q ho exb rl ra e k
  unfold gAppend at e
  split at e
  · split at e
    · rename_i hb
      cases e
      cases ra with
      | cons r1 r2 =>
        cases r2
        exact ⟨p, vs, _, rfl, rfl, ho, by rw [rl.length]; exact big_ok hb, k _ _ (rl.snoc r1) .non⟩
    · cases e
  · cases e
def gPop (l ds : List PyData) : Option (List PyData × PyData) := match ds with
  | [] => (match l[l.length - 1]? with
    | some d => some (l.dropLast, d)
    | none => none)
  | _ => none
theorem mut_pop : MutU X rPop gPop := by
  intro p vs l xs ds l' d B H Q ho exb rl ra e k
  unfold gPop at e
  split at e
  · split at e
    · rename_i y hy
      cases e
      cases ra
      obtain ⟨v, h1, h2⟩ := rl.get hy
      exact ⟨p, vs, v, rfl, rfl, ho, by rw [rl.length]; exact h1, k _ _ rl.dropLast h2⟩
    · cases e
  · cases e
def gPopAt (l ds : List PyData) : Option (List PyData × PyData) := match ds with
  | [.int i] => if 0 ≤ i ∧ i < (l.length : Int) ∧ big l.length = true then (match l[i.toNat]? with
    | some d => some (l.eraseIdx i.toNat, d)
    | none => none) else none
  | _ => none
theorem mut_popAt : MutU X rPopAt gPopAt := by
  intro p vs l xs ds l' d B H Q ho exb rl ra e k
  unfold gPopAt at e
  split at e
  · rename_i i
    split at e
    · rename_i hb
      obtain ⟨h0, h1, h2⟩ := hb
      split at e
      · rename_i y hy
        cases e
        cases ra with
        | cons r1 r2 =>
          cases r2
          cases r1
          obtain ⟨v, k1, k2⟩ := rl.get hy
          have h3 := of_decide_eq_true h2
          refine ⟨p, vs, i, i.toNat, v, rfl, rfl, ho, by omega, by omega, ?_, k1, k _ _ (rl.eraseIdx _) k2⟩
          have := (ixN_seq (n := vs.length) (i := i) (j := i.toNat) (by
            unfold ixN
            rw [if_pos h0, if_pos (by rw [rl.length]; omega)])).1
          exact this
      · cases e
    · cases e
  · cases e
/-! ### an expression that changes a slot's own list -/
def MPost (K : PySem.W.Frag) (E : XK) (B0 H0 B : Hp) (σ : L2.St) (r : M (PyData × Env)) (Q : VK) : Prop := match r with
  | .stuck => False
  | .exc x => ∀ H', Ex H0 H' → E (.ref (He.ga K x)) none H'
  | .ok (d, ρ) => ∀ v B' H', Ex B B' → ER K B0 H0 B' H' σ ρ → R K B' v d → Q v H'
def DM (X : Cx) (E : XK) (e : Expr) (f : Env → M (PyData × Env)) : Prop := ∃ t, PE X e t ∧ ∀ B0 H0 B H σ ρ Q, ER X.K B0 H0 B H σ ρ → MPost X.K E B0 H0 B σ (f ρ) Q → t σ H Q
def mLift (f : Env → M Sl) : Env → M (PyData × Env) := fun ρ => (f ρ).bind fun x => .ok (x.d, ρ)
theorem dm_lift (h : DE X E e fa) : DM X E e (mLift fa) := by
  obtain ⟨t, p, h⟩ := h
  refine ⟨t, p, fun B0 H0 B H σ ρ Q re q => ?_⟩
  refine h B0 H0 B H σ ρ Q re ?_
  unfold mLift at q
  cases z : fa ρ with
  | stuck => rw [z] at q; exact q.elim
  | exc x =>
    rw [z] at q
    exact fun H' e => q H' (re.gr.h.trans e)
  | ok sl =>
    rw [z] at q
    intro v B' H' g r
    obtain ⟨B2, g2, r2⟩ := r.fix g
    exact q v B2 H' g2.b (re.grow g2) r2
def mMut (i : Nat) (g : List PyData → List PyData → Option (List PyData × PyData)) (f : Env → M (List PyData)) : Env → M (PyData × Env) := fun ρ => match ρ[i]? with
  | some (some (.own (.list l))) => (f ρ).bind fun ds => (match g l ds with
    | some (l', d) => .ok (d, ρ.set i (some (.own (.list l'))))
    | none => .stuck)
  | _ => .stuck
theorem run_mut {i : Nat} {r : V → List V → Hp → VK → Prop} {g : List PyData → List PyData → Option (List PyData × PyData)} {fs : Env → M (List PyData)} {t : TA} (hg : MutU X r g)
    (h : ∀ B0 H0 B H σ ρ Q, ER X.K B0 H0 B H σ ρ → APost X.K E B H (fs ρ) Q → t σ H Q) : ∀ B0 H0 B H σ ρ Q, ER X.K B0 H0 B H σ ρ → MPost X.K E B0 H0 B σ (mMut i g fs ρ) Q → tBM X.K "list" r (tVar i) t σ H Q := by
  intro B0 H0 B H σ ρ Q re q
  unfold mMut at q
  split at q
  · rename_i l hi
    obtain ⟨p, o, h1, h2, h3, h4, h5⟩ := re.own i _ hi
    cases h5 with
    | lst rl =>
      rename_i vs
      refine ⟨_, h1, .inl ⟨rfl, vs, SqL.of h4⟩, h B0 H0 B H σ ρ _ re ?_⟩
      cases z : fs ρ with
      | stuck => rw [z] at q; exact q.elim
      | exc x =>
        rw [z] at q
        exact fun H' e => q H' (re.gr.h.trans e)
      | ok ds =>
        rw [z, bind_ok] at q
        intro xs B1 H1 g1 ra
        split at q
        · rename_i l' d hgd
          refine hg p vs l xs ds l' d B1 H1 Q (g1.h p _ h4) g1.s (rl.mono g1.b) ra hgd fun vs' y rv ry => ?_
          have nb : B1 p = none := g1.lm h4 h3 (fun _ h => nomatch h)
          exact q y B1 _ g1.b ((re.grow g1).own_put hi h1 (g1.h p _ h4) nb h2 (.lst rv)) ry
        · exact q.elim
  · exact q.elim
theorem dm_mut {i : Nat} {id : String} {name : Str} {r : V → List V → Hp → VK → Prop} {g : List PyData → List PyData → Option (List PyData × PyData)} {o : Expr} {fs : Env → M (List PyData)} {apos cpos : Pos} (sl : Slot "list" name id) (hty : typeOf (.builtin id) = pure (.type "method_descriptor")) (hm : MtR X id r) (hg : MutU X r g)
    (ho : PE X o (tVar i)) (ha : DA X E (e :: es) fs)
    (hpe : ∀ t, PA X (e :: es) t → PE X (.Call (.Attribute o name apos) (e :: es) [] cpos) (tBM X.K "list" r (tVar i) t)) : DM X E (.Call (.Attribute o name apos) (e :: es) [] cpos) (mMut i g fs) := by
  obtain ⟨t, p, h⟩ := ha
  exact ⟨_, hpe t p, run_mut hg h⟩
theorem dm_mut0 {i : Nat} {r : V → List V → Hp → VK → Prop} {g : List PyData → List PyData → Option (List PyData × PyData)} {c : Expr} (hg : MutU X r g) (hpe : PE X c (tBM0 X.K "list" r (tVar i))) : DM X E c (mMut i g aNil) := by
  refine ⟨_, hpe, fun B0 H0 B H σ ρ Q re q => ?_⟩
  have := run_mut (i := i) (E := E) (t := tNil) hg (fs := aNil) (fun B0 H0 B H σ ρ Q re q => q [] B H (.refl re.gr.s) .nil) B0 H0 B H σ ρ Q re q
  exact this
/-- a statement that only does this -/
def oMutS (f : Env → M (PyData × Env)) : Env → O := fun ρ => oOf (f ρ) fun x => .nx x.2
theorem mpost_of {K : PySem.W.Frag} {B0 H0 B H : Hp} {D : Ends} {σ : L2.St} {r : M (PyData × Env)} {k : PyData × Env → O} {Q : VK} (h : SPost K E B0 H0 B D (oOf r k))
    (hk : ∀ d ρ, r = .ok (d, ρ) → SPost K E B0 H0 B D (k (d, ρ)) → ∀ v B' H', Ex B B' → ER K B0 H0 B' H' σ ρ → R K B' v d → Q v H') : MPost K E B0 H0 B σ r Q := by
  cases r with
  | stuck => exact h.elim
  | exc x => exact h
  | ok sl => exact hk sl.1 sl.2 rfl h
theorem ds_mut {m : Env → M (PyData × Env)} (h : DM X E e m) (hs : swapsWith e none pos.line X.env = pure false := by rfl) : DS X E (.Expr e pos) (oMutS m) := by
  obtain ⟨t, p, h⟩ := h
  refine ⟨_, ps_expr p hs, fun B0 H0 B H σ ρ D re q => ?_⟩
  exact h B0 H0 B H σ ρ _ re (mpost_of (H := H) q fun d ρ' _ q v B' H' eb r _ => q B' H' σ eb r)
def oMutA (i : Nat) (f : Env → M (PyData × Env)) : Env → O := fun ρ => oOf (f ρ) fun x => .nx (x.2.set i (some (.dat x.1)))
theorem ds_mutA {m : Env → M (PyData × Env)} {i : Nat} {x : Str} {pos' : Pos} (hN : X.N.Nodup) (hi : X.N[i]? = some x) (hx : Loc X.env.scope x) (h : DM X E e m) (hs : swapsWith e (some (.Name x pos')) pos.line X.env = pure false := by rfl) (hf : X.fn x = true ∨ X.env.scope.names.lookup x = some .local := by first | exact .inl rfl | exact .inr rfl | assumption) :
    DS X E (.Assign [.Name x pos'] e pos) (oMutA i m) := by
  obtain ⟨t, p, h⟩ := h
  refine ⟨_, ps_set hN hi hx p hs hf, fun B0 H0 B H σ ρ D re q => ?_⟩
  exact h B0 H0 B H σ ρ _ re (mpost_of (H := H) q fun d ρ' _ q v B' H' eb r rv => q B' H' _ eb (r.put (.refl r.gr.s) (sl := .dat d) rv))
/-- arguments whose first one changes a slot -/
def DAM (X : Cx) (E : XK) (es : List Expr) (f : Env → M (List PyData × Env)) : Prop := ∃ t, PA X es t ∧ ∀ B0 H0 B H σ ρ (Q : List V → Hp → Prop), ER X.K B0 H0 B H σ ρ →
  (match f ρ with
    | .stuck => False
    | .exc x => ∀ H', Ex H0 H' → E (.ref (He.ga X.K x)) none H'
    | .ok (ds, ρ') => ∀ vs B' H', Ex B B' → ER X.K B0 H0 B' H' σ ρ' → RA X.K B' vs ds → Q vs H') → t σ H Q
def amCons (f : Env → M (PyData × Env)) (g : Env → M (List PyData)) : Env → M (List PyData × Env) := fun ρ => (f ρ).bind fun x => (g x.2).bind fun ds => .ok (x.1 :: ds, x.2)
theorem dam_cons {m : Env → M (PyData × Env)} {gs : Env → M (List PyData)} (h : DM X E e m) (k : DA X E es gs) (hs : starEach (e :: es) X.env = (false, eval e X.env) :: starEach es X.env := by rfl) : DAM X E (e :: es) (amCons m gs) := by
  obtain ⟨t, p, h⟩ := h
  obtain ⟨u, pu, k⟩ := k
  refine ⟨_, pa_cons p pu hs, fun B0 H0 B H σ ρ Q re q => ?_⟩
  refine h B0 H0 B H σ ρ _ re ?_
  unfold amCons at q
  cases z : m ρ with
  | stuck => rw [z] at q; exact q.elim
  | exc x => rw [z] at q; exact q
  | ok y =>
    obtain ⟨d, ρ1⟩ := y
    rw [z] at q
    intro v B1 H1 e1 r1 rv
    refine k B0 H0 B1 H1 σ ρ1 _ r1 ?_
    simp only [bind_ok] at q
    cases z2 : gs ρ1 with
    | stuck => rw [z2] at q; exact q.elim
    | exc x =>
      rw [z2] at q
      exact fun H' e => q H' (r1.gr.h.trans e)
    | ok ds =>
      rw [z2] at q
      exact fun vs B2 H2 g2 ra => q (v :: vs) B2 H2 (e1.trans g2.b) (r1.grow g2) (.cons (rv.mono g2.b) ra)
end
/-! ### defs -/
def fnO (n m : Nat) (o : Env → O) : List PyData → M Sl := fun ds => if ds.length = n then (match o (ds.map (fun d => some (Sl.dat d)) ++ List.replicate (m - n) none) with
  | .rt sl => .ok sl
  | .nx _ => .ok (.dat .none)
  | .exc x => .exc x
  | _ => .stuck) else .stuck
theorem er_start {K : PySem.W.Frag} {N : List Str} {vs : List V} {ds : List PyData} {B H : Hp} (e : Ex B H) (r : RA K B vs ds) : ER K B H B H (L2.start N vs) (ds.map (fun d => some (Sl.dat d)) ++ List.replicate (N.length - ds.length) none) := by
  have hl := r.length
  refine ⟨.refl e, ?_, fun i d q => ?_, fun i d q => ?_, fun i j d e p q => ?_⟩
  · unfold L2.start
    simp [hl]
  · by_cases z : i < ds.length
    · rw [List.getElem?_append_left (by simpa using z), List.getElem?_map] at q
      cases z2 : ds[i]? with
      | none => rw [z2] at q; cases q
      | some d2 =>
        rw [z2] at q
        cases q
        obtain ⟨v, k1, k2⟩ := r.get z2
        refine ⟨v, ?_, k2⟩
        unfold L2.start
        rw [List.getElem?_append_left (by simpa [hl] using z), List.getElem?_map, k1]
        rfl
    · rw [List.getElem?_append_right (by simpa using z)] at q
      simp only [List.getElem?_replicate] at q
      split at q <;> cases q
  all_goals
    by_cases z : i < ds.length
    · rw [List.getElem?_append_left (by simpa using z), List.getElem?_map] at q
      cases z2 : ds[i]? with
      | none => rw [z2] at q; cases q
      | some d2 => rw [z2] at q; cases q
    · rw [List.getElem?_append_right (by simpa using z)] at q
      simp only [List.getElem?_replicate] at q
      split at q <;> cases q
/-- what a body does is what the def promises -/
theorem body_ok {X : Cx} {E : XK} {body : List Stmt} {o : Env → O} {N : List Str} {n : Nat} (h : DSs X E body o) {vs : List V} {H : Hp} {Q : VK} (hs : spD X.K n (fnO n N.length o) vs H Q E) :
    ∃ t, PSs X body t ∧ t { nx := fun _ H' => Q .non H', rt := Q } (L2.start N vs) H := by
  obtain ⟨t, p, h⟩ := h
  obtain ⟨hn, ds, B, e, r, q⟩ := hs
  refine ⟨t, p, h B H B H _ _ _ (er_start e r) ?_⟩
  have hl : ds.length = n := by rw [← r.length]; exact hn
  unfold fnO at q
  rw [if_pos hl, ← hl] at q
  cases z : o (ds.map (fun d => some (Sl.dat d)) ++ List.replicate (N.length - ds.length) none) with
  | stuck => rw [z] at q; exact q.elim
  | exc x => rw [z] at q; exact q
  | bk ρ => rw [z] at q; exact q.elim
  | ct ρ => rw [z] at q; exact q.elim
  | nx ρ =>
    rw [z] at q
    exact fun B' H' σ' _ r' => q .non B' H' r'.gr .non
  | rt sl =>
    rw [z] at q
    exact q
/-- what is known of a def of the text -/
def Knows (P : Program) (w : World) (K : PySem.W.Frag) (mg : Str → Option Value) (base : Heap) (x : Str) (k : Nat) (ps : List Str) (g : List PyData → M Sl) : Prop :=
  mg x = some (.ref (He.ga K x)) ∧ PySem.W.keepIn K (.ref (He.ga K x)) = true ∧ ∃ fd, FnOk P w K mg base (L2.CX P w) k (He.ga K x) fd ps (spD K ps.length g) ∧ Binds K fd ps []
section
variable {P : Program} {w : World} {K : PySem.W.Frag} {mg : Str → Option Value} {base : Heap}
theorem kn_mk {x qual : Str} {st : Stmt} {N ps : List Str} {k : Nat} {o : Env → O} (hF : ∃ fd, FunD K x qual (defArgs st) (defBody st) (defScope st) [] [] (He.ga K x) fd) (S : FnScope N ps (defScope st)) (hm : mg x = some (.ref (He.ga K x)))
    (hb : ∀ (kV doc pm : Value) (an : Option Addr) (cdv ct : Value) (us : List Value), us.length = ps.length → bindArgs (PySem.W.fnOf x qual (defArgs st) (defBody st) (defScope st) .none kV doc pm an cdv ct) ⟨us, []⟩ = pure (ps.zip us))
    (h : ∀ (cdv : Value) (A : Around) (outer : List PySem.Env) (s : Shared) (H : Hp) (E : XK), Room k (A.deeper (envOfC qual (defScope st) s.heap.objs.size (He.ga K x) cdv)) →
      Passes (L2.CX P w) (cxOf (L2.CX P w) P w K mg base N qual (defScope st) (He.ga K x) cdv A outer s H E) E →
      DSs (cxOf (L2.CX P w) P w K mg base N qual (defScope st) (He.ga K x) cdv A outer s H E) E (defBody st) o) : Knows P w K mg base x (k + 1) ps (fnO ps.length N.length o) := by
  obtain ⟨fd, F⟩ := hF
  refine ⟨hm, F.kp, fd, ?_, F.bindsN hb⟩
  refine F.ok S (fun vs H Q E h => h.1) fun cdv A outer s H vs Q E hr hs => ?_
  exact body_ok (h cdv A outer s H E hr (passes_call (takes_of rfl rfl rfl rfl) fun _ _ _ _ z => z)) hs
theorem takes_cx {N : List Str} {qual : Str} {scope : Scope} {f : Addr} {cdv : Value} {A : Around} {outer : List PySem.Env} {s : Shared} {H : Hp} {E : XK} : Takes (cxOf (L2.CX P w) P w K mg base N qual scope f cdv A outer s H E) (fun cls d _ H => E cls d H) := takes_of rfl rfl rfl rfl
theorem owns_cx {N : List Str} {qual : Str} {scope : Scope} {f : Addr} {cdv : Value} {A : Around} {outer : List PySem.Env} {s : Shared} {H : Hp} {E : XK} :
    PassesOwn (model P w) (cxOf (L2.CX P w) P w K mg base N qual scope f cdv A outer s H E).A (cxOf (L2.CX P w) P w K mg base N qual scope f cdv A outer s H E).env (cxOf (L2.CX P w) P w K mg base N qual scope f cdv A outer s H E).xe := passes_of (X := cxOf (L2.CX P w) P w K mg base N qual scope f cdv A outer s H E) rfl
/-- a def of the text, called -/
theorem de_kn {X : Cx} {E : XK} {e : Expr} {es : List Expr} {pos p : Pos} {x : Str} {k : Nat} {ps : List Str} {g : List PyData → M Sl} {f : Env → M (List PyData)} (kn : Knows X.prog X.w X.K X.mg X.base x k ps g) (hr : Room k X.A) (hg : Gl X x) (hx : Passes (L2.CX X.prog X.w) X E)
    (h : DA X E (e :: es) f) (hl : ∀ ρ ds, f ρ = .ok ds → ds.length = ps.length) (hdb : (x == ("__debug__" : Str)) = false := by decide) (he : starEach (e :: es) X.env = (false, eval e X.env) :: starEach es X.env := by rfl) (hpl : (backTo pos (starEach es X.env)).any (·.1) = false := by rfl) :
    DE X E (.Call (.Name x p) (e :: es) [] pos) (eCall g f) := by
  obtain ⟨hm, kp, fd, F, b⟩ := kn
  obtain ⟨t, pt, h⟩ := h
  refine ⟨_, pe_call F hr hg hm kp b .nil hx pt hdb he hpl, fun B0 H0 B H σ ρ Q re q => ?_⟩
  refine run_a h re ?_
  rcases q.bind with ⟨ds, e1, q⟩ | ⟨x, e1, q⟩
  · refine .inl ⟨ds, e1, fun vs B1 H1 g1 r1 => ?_⟩
    rw [List.append_nil]
    exact ⟨by rw [r1.length]; exact hl ρ ds e1, ds, B1, g1.s, r1, q.grow g1⟩
  · exact .inr ⟨x, e1, q⟩
def mCall (g : List PyData → M Sl) (f : Env → M (List PyData × Env)) : Env → M (PyData × Env) := fun ρ => (f ρ).bind fun x => (g x.1).bind fun y => .ok (y.d, x.2)
theorem dm_kn {X : Cx} {E : XK} {e : Expr} {es : List Expr} {pos p : Pos} {x : Str} {k : Nat} {ps : List Str} {g : List PyData → M Sl} {f : Env → M (List PyData × Env)} (kn : Knows X.prog X.w X.K X.mg X.base x k ps g) (hr : Room k X.A) (hg : Gl X x) (hx : Passes (L2.CX X.prog X.w) X E)
    (h : DAM X E (e :: es) f) (hl : ∀ ρ ds ρ', f ρ = .ok (ds, ρ') → ds.length = ps.length) (hdb : (x == ("__debug__" : Str)) = false := by decide) (he : starEach (e :: es) X.env = (false, eval e X.env) :: starEach es X.env := by rfl) (hpl : (backTo pos (starEach es X.env)).any (·.1) = false := by rfl) :
    DM X E (.Call (.Name x p) (e :: es) [] pos) (mCall g f) := by
  obtain ⟨hm, kp, fd, F, b⟩ := kn
  obtain ⟨t, pt, h⟩ := h
  refine ⟨_, pe_call F hr hg hm kp b .nil hx pt hdb he hpl, fun B0 H0 B H σ ρ Q re q => ?_⟩
  refine h B0 H0 B H σ ρ _ re ?_
  unfold mCall at q
  cases z : f ρ with
  | stuck => rw [z] at q; exact q.elim
  | exc x => rw [z] at q; exact q
  | ok y =>
    obtain ⟨ds, ρ1⟩ := y
    rw [z] at q
    intro vs B1 H1 e1 r1 ra
    rw [List.append_nil]
    refine ⟨by rw [ra.length]; exact hl ρ ds ρ1 z, ds, B1, r1.gr.s, ra, ?_⟩
    simp only [bind_ok] at q
    cases z2 : g ds with
    | stuck => rw [z2] at q; exact q.elim
    | exc x =>
      rw [z2] at q
      exact fun H' e => q H' (r1.gr.h.trans e)
    | ok sl =>
      rw [z2] at q
      intro v B2 H2 g2 r
      obtain ⟨B3, g3, r3⟩ := r.fix g2
      exact q v B3 H2 (e1.trans g3.b) (r1.grow g3) r3
end
end Dl
/-! The data layer: what is walked; comprehensions. -/
namespace Dl
open PySem PySem.Spec PyProof.Rows L2
/-! ### enumerate(tuple) -/
section
open Sem (wp)
open AutoSeq1 (wpAny_loadPart')
theorem meets_enumerate_newT {v : Value} {o : Obj} {H : Heap → Prop} (B : Begins v o H) :
    Meets (Builtin.«enumerate.__new__» ⟨[.type "enumerate", v], []⟩) (fun _ R s => H s.heap ∧
      R (.ok (.ret (.ref (s.heap.push o).objs.size))) { s with heap := (s.heap.push o).push { cls := .type "enumerate", data := .fields #[.none, .bool false, .ref s.heap.objs.size, rawInt 0, .none, .none] } }) :=
  .of_wp fun prog w A R s h => by
    obtain ⟨hp, g, d, tk, os⟩ := s; obtain ⟨h1, h⟩ := h
    have hsub := sub_enumerate
    have q1 : ∀ {A' : Around} {E : Value → Shared → Prop} {Q : Value → Shared → Prop}, Q (.ref hp.objs.size) ⟨hp.push o, g, d, tk, os⟩ → wpAny (model prog w) A' (pyIter v) Q E ⟨hp, g, d, tk, os⟩ :=
      fun q => B.iter prog w _ _ ⟨hp, g, d, tk, os⟩ _ h1 q
    wp_walk using q1
    refine wpAny_stack_any fun st => wpAny_pure ?_
    split
    · rename_i c _ _ _ _ _
      cases (c == Value.type "enumerate")
      · wp_walk using q1
        exact ⟨_, rfl, h⟩
      · wp_walk using q1
        exact ⟨_, rfl, h⟩
    · wp_walk using q1
      exact ⟨_, rfl, h⟩
variable {prog : Program} {w : World} {A : Around} {E : Value → Shared → Prop} {s : Shared}
theorem call_enumerate_tup {v : Value} {o : Obj} {H : Heap → Prop} {Q : Value → Shared → Prop} (B : Begins v o H) (h1 : H s.heap)
    (h : ∀ h', IsEnum h' (s.heap.objs.size + 1) s.heap.objs.size 0 .none → h'.get? s.heap.objs.size = some o → h'.objs.size = s.heap.objs.size + 2 →
      (∀ b o, s.heap.get? b = some o → h'.get? b = some o) → Q (.ref (s.heap.objs.size + 1)) { s with heap := h' }) :
    wpAny (model prog w) A (call (.type "enumerate") [v]) Q E s := by
  refine callType_new F.called_enumerate (by decide) (F.typeCall_enumerate_1 _) (F.newCall_enumerate_1 _) (fun obj => F.args_object_init_2 obj _) F.entry_enumerate_new
    (meets_enumerate_newT B) ⟨h1, ?_⟩
  have hz : (s.heap.push o).objs.size = s.heap.objs.size + 1 := Heap.size_push ..
  show _ ∧ _
  rw [hz]
  have he : IsEnum ((s.heap.push o).push { cls := .type "enumerate", data := .fields #[.none, .bool false, .ref s.heap.objs.size, rawInt 0, .none, .none] }) (s.heap.objs.size + 1) s.heap.objs.size 0 .none := by
    have := Heap.get?_push_size (s.heap.push o) (o := { cls := .type "enumerate", data := .fields #[.none, .bool false, .ref s.heap.objs.size, rawInt 0, .none, .none] }) rfl
    rw [hz] at this; exact this
  refine ⟨⟨_, he, rfl⟩, h _ he (Heap.get?_push_of_some _ (Heap.get?_push_size _ B.free)) (by rw [Heap.size_push, hz]) fun b o x => Heap.get?_push_of_some _ (Heap.get?_push_of_some _ x)⟩
end
/-- the tuple at a, each item in a new pair -/
def IteT (K : PySem.W.Frag) (a : Addr) : It :=
  ⟨fun i H => ∃ (xs : List V) (x : V), SqT K H a xs ∧ xs[i]? = some x, fun i H v H' => ∃ T x, v = .ref T ∧ H T = none ∧ H' = upd H T (.tup [.int (i : Nat), x]) ∧ ∀ xs, SqT K H a xs → xs[i]? = some x, fun i H => ∃ xs : List V, SqT K H a xs ∧ xs.length ≤ i⟩
theorem turn_enumT {P : Program} {w : World} {K : PySem.W.Frag} {elts : List Expr} {kk : Nat} {tpos : Pos} (a e it : Addr) :
    Turn P w K (.Tuple elts kk tpos) (IteT K a) [e, it] e (fun i h => (∃ old, IsEnum h e it ((i : Nat) : Int) old) ∧ h.IsTupleIter it a i ∧ e ≠ it ∧ a ≠ it ∧ a ≠ e) where
  mem := by simp
  obj := fun i h st b hb => by
    obtain ⟨⟨old, he⟩, ⟨o, ho, hc, hd⟩, _⟩ := st
    have e' : b = e ∨ b = it := by simpa using hb
    rcases e' with z | z
    · rw [z]; exact ⟨_, he, fun v q => nomatch q⟩
    · rw [z]; exact ⟨o, ho, fun v q => by rw [hd] at q; cases q⟩
  keep := fun i h h' st k => let ⟨⟨old, he⟩, hi, hne⟩ := st; ⟨⟨old, k e (by simp) _ he⟩, hi.at fun o q => k it (by simp) o q, hne⟩
  item := by
    intro X hP hw hK hc i pins s σ H E I hf st hg
    subst hP hw hK
    obtain ⟨⟨old, he⟩, hit, hne, hai, hae⟩ := st
    obtain ⟨xs, x, hq, hx⟩ := hg
    obtain ⟨its, rv, p, hz⟩ := I.tuple hq
    obtain ⟨u, hu, ru⟩ := rv.get hx
    have hel : e < s.heap.objs.size := Heap.lt_size he
    have hil : it < s.heap.objs.size := by obtain ⟨_, q, _⟩ := hit; exact Heap.lt_size q
    have hlt : i < its.toArray.size := by
      rw [List.size_toArray, ← rv.length]
      exact (List.getElem?_eq_some_iff.mp hx).1
    have hh : X.A.in1.handled = none := I.ok.hd hc
    refine wpAny_pyNext_enum_itemD (Draws.tuple hh it a hai its.toArray) he ⟨hit, p⟩ hlt hne (by simp [hne, hae.symm]) fun y h' tk hy ho hit' hT hsz hk => ?_
    have ey : y = u := by
      have hu' : its.toArray[i]? = some u := by simpa using hu
      rw [hu'] at hy
      exact (Option.some.inj hy).symm
    subst ey
    refine ⟨_, rfl, wpAny_letOwnedTupleGo_enum (s := { s with heap := h', toks := tk + 1 }) ho fun h'' he' sb => ?_⟩
    have hT2 : h''.get? s.heap.objs.size = some { cls := .type "tuple", data := .seq #[.int i tk, y] } := (sb.2 _ (Nat.ne_of_gt hel)).trans hT
    have new : ObjOk X.prog X.w (upd H s.heap.objs.size (.tup [.int (i : Nat), x])) h'' s.heap.objs.size (.tup [.int (i : Nat), x]) :=
      ⟨by show 2 ≤ sizeLine; decide, [.int i tk, y], .cons ⟨_, rfl⟩ (.cons ru .nil), ⟨_, hT2, rfl, _, rfl⟩⟩
    have I1 : Inv X pins σ (upd H s.heap.objs.size (.tup [.int (i : Nat), x])) { s with heap := h'', toks := tk + 1 } :=
      I.turnedNew (ch := [e, it]) (fun b ob hb q => (sb.2 b (fun z => hb (by simp [z]))).trans (hk b ob (fun z => hb (by simp [z])) (fun z => hb (by simp [z])) q)) hf (Nat.le_refl _) new
    refine ⟨.ref s.heap.objs.size, _, I1, rfl, ⟨_, x, rfl, I.hok.fresh (Nat.le_refl _), rfl, fun ys hy => by rw [I.tuple_inj hy hq]; exact hx⟩, ⟨⟨y, ?_⟩, hit'.1.at fun o q => (sb.2 it (Ne.symm hne)).trans q, hne, hai, hae⟩, fun b hb => ?_⟩
    · have e1 : ((i + 1 : Nat) : Int) = (i : Int) + 1 := by omega
      rw [e1]; exact he'
    · have hb' : b < s.heap.objs.size := by
        have e' : b = e ∨ b = it := by simpa using hb
        rcases e' with z | z
        · rw [z]; exact hel
        · rw [z]; exact hil
      rw [upd_ne (Nat.ne_of_lt hb')]
      exact (hf b hb).1
  done := by
    intro X hP hw hK hc i pins s σ H E I hf st hg
    subst hP hw hK
    obtain ⟨⟨old, he⟩, hit, hne, hai, hae⟩ := st
    obtain ⟨xs, hq, hx⟩ := hg
    obtain ⟨its, rv, p, hz⟩ := I.tuple hq
    obtain ⟨f0, f1, f2, f3, f4, f5⟩ := hf it (by simp)
    have hl := rv.length
    have hh : X.A.in1.handled = none := I.ok.hd hc
    unfold pyNext
    have hT : s.TypeIs (.ref e) "enumerate" := ⟨_, he, rfl⟩
    refine wpAny_bind (wpAny_attempt (wpAny_callSpecial?_slot (name := Str.ofString "__next__") hT F.slot_enumerate_next
      (wpAny_call_entry F.slot_enumerate_next hT F.entry_enumerate_next ?_ (F.args_enumerate_next_1 _))))
    show wpAny _ _ (field (.ref e) 2 >>= _) _ _ _
    refine wpAny_bind (wpAny_field he rfl (x := .ref it) rfl ?_)
    refine wpAny_bind (wpAny_nextOf_tuple_end hh hit p (by simp; omega) fun h' x he' hx' => ?_)
    obtain ⟨o, ho, hcl⟩ := hx'
    refine wpAny_bind (wpAny_isInstance (T := "StopIteration") (b := true) ⟨o, ho, hcl⟩ isSubtype_stop ?_)
    exact wpAny_pure ⟨rfl, I.turned (t' := s.toks) (fun b o hb q => he' b o hb q) f0 f1 f3 f4 f5⟩
  self := fun A i s Q E st h => let ⟨⟨_, he⟩, _⟩ := st; wpAny_pyIter_enum he h
def iEnumT (K : PySem.W.Frag) (ta : TA) : TI := fun σ H R => ta σ H fun vs H1 => ∃ a, vs = [.ref a] ∧ ((∃ xs, SqL K H1 a xs ∧ R (Ite K a) H1) ∨ ∃ xs, SqT K H1 a xs ∧ R (IteT K a) H1)
theorem pi_enumT {X : Cx} {e : Expr} {ta : TA} {p pos tpos : Pos} {elts : List Expr} {kk : Nat} (hg : Gl X "enumerate") (hm : X.mg "enumerate" = none) (ha : PA X [e] ta) (hs : starEach [e] X.env = [(false, eval e X.env)] := by rfl) :
    PI X (.Tuple elts kk tpos) (.Call (.Name "enumerate" p) [e] [] pos) (iEnumT X.K ta) := by
  refine ⟨fun pins s σ H R I h => ?_⟩
  refine Call_ (ld_blt I hg hm boot_enumerate (PyProof.Rows.callWith_type1 (thn (ha.run pos pins s σ H _ I h) fun us s1 ⟨vs, H1, I1, r1, q1⟩ => ?_) hs rfl))
  obtain ⟨a, ex, hq⟩ := q1
  subst ex
  cases r1 with
  | cons r rr =>
    cases rr
    cases r
    have fp : ∀ b, b ∈ [s1.heap.objs.size + 1, s1.heap.objs.size] → FpOk X pins H1 b := fun b hb => by
      have e' : b = s1.heap.objs.size + 1 ∨ b = s1.heap.objs.size := by simpa using hb
      have hle : s1.heap.objs.size ≤ b := by
        rcases e' with z | z
        · rw [z]; exact Nat.le_add_right _ _
        · rw [z]; exact Nat.le_refl _
      exact I1.fpOk hle (I1.hok.fresh hle)
    rcases hq with ⟨xs, hq, q⟩ | ⟨xs, hq, q⟩
    · obtain ⟨its, rv, p', hz⟩ := I1.list hq
      refine call_enumerate_list p'.isList fun h' he hit hsz hk => wpAny_pyIter_enum he ?_
      have I2 : Inv X pins σ H1 { s1 with heap := h' } := I1.kept (t' := s1.toks) hk
      exact ⟨s1.heap.objs.size + 1, [s1.heap.objs.size + 1, s1.heap.objs.size], _, _, H1, rfl, I2, turn_enum a (s1.heap.objs.size + 1) s1.heap.objs.size, ⟨⟨.none, he⟩, hit, Nat.succ_ne_self _⟩, fp, q⟩
    · obtain ⟨its, rv, p', hz⟩ := I1.tuple hq
      have hlt : a < s1.heap.objs.size := p'.lt
      refine call_enumerate_tup (begins_tuple a its.toArray) p' fun h' he hit hsz hk => wpAny_pyIter_enum he ?_
      have I2 : Inv X pins σ H1 { s1 with heap := h' } := I1.kept (t' := s1.toks) hk
      exact ⟨s1.heap.objs.size + 1, [s1.heap.objs.size + 1, s1.heap.objs.size], _, _, H1, rfl, I2, turn_enumT a (s1.heap.objs.size + 1) s1.heap.objs.size, ⟨⟨.none, he⟩, ⟨_, hit, rfl, rfl⟩, Nat.succ_ne_self _, Nat.ne_of_lt hlt, Nat.ne_of_lt (Nat.lt_succ_of_lt hlt)⟩, fp, q⟩
end Dl
namespace Dl
open PySem PySem.Spec PyProof.Rows L2 RZ RT
section
variable {X : Cx} {E : XK} {tg e e2 : Expr} {fa fb : Env → M Sl} {pos : Pos}
/-! ### a sequence's or a text's walk -/
def iAny (K : PySem.W.Frag) (tl : TE) : TI := fun σ H R => tl σ H fun x H1 => (∃ a, x = .ref a ∧ ((∃ xs, SqL K H1 a xs ∧ R (Itl K a) H1) ∨ ∃ xs, SqT K H1 a xs ∧ R (Itt K a) H1)) ∨ ∃ z, x = .str z ∧ R (Its z) H1
theorem pi_any {l : Expr} {tl : TE} (hl : PE X l tl) : PI X tg l (iAny X.K tl) := by
  refine ⟨fun pins s σ H R I h => ?_⟩
  refine thn (hl.run pins s σ H _ I h) fun v s1 ⟨x, H1, I1, r1, q1⟩ => ?_
  rcases q1 with ⟨a, e, q1⟩ | ⟨z, e, q⟩
  · subst e
    cases r1
    have fp : ∀ b, b ∈ [s1.heap.objs.size] → FpOk X pins H1 b := fun b hb => by
      have e : b = s1.heap.objs.size := by simpa using hb
      subst e
      exact I1.fpOk (Nat.le_refl _) (I1.hok.fresh (Nat.le_refl _))
    rcases q1 with ⟨xs, hq, q⟩ | ⟨xs, hq, q⟩
    · obtain ⟨its, rv, p, hz⟩ := I1.list hq
      refine wpAny_pyIter_list p.isList ?_
      exact ⟨s1.heap.objs.size, [s1.heap.objs.size], _, _, H1, rfl, I1.kept (t' := s1.toks) fun b o e => Heap.get?_push_of_some _ e, turn_list a _, ⟨_, Heap.get?_push_size _ rfl, rfl, rfl⟩, fp, q⟩
    · obtain ⟨its, rv, p, hz⟩ := I1.tuple hq
      refine wpAny_pyIter_tuple (show s1.heap.IsTuple a its.toArray from p) ?_
      exact ⟨s1.heap.objs.size, [s1.heap.objs.size], _, _, H1, rfl, I1.kept (t' := s1.toks) fun b o e => Heap.get?_push_of_some _ e, turn_tuple a _, ⟨_, Heap.get?_push_size _ rfl, rfl, rfl⟩, fp, q⟩
  · subst e
    obtain ⟨t, rfl⟩ := r1
    cases ha : z.cps.all (· < 128)
    · exact wpAny_pyIter_wide ha (pi_one (tk := s1.toks) I1 _ (turn_str _ z t "str_iterator" (.inr rfl)) ⟨_, Heap.get?_push_size _ rfl, rfl, rfl⟩ q)
    · exact wpAny_pyIter_ascii ha (pi_one (tk := s1.toks) I1 _ (turn_str _ z t "str_ascii_iterator" (.inl rfl)) ⟨_, Heap.get?_push_size _ rfl, rfl, rfl⟩ q)
/-! ### walks by data -/
variable {K : PySem.W.Frag} {B H : Hp}
theorem wlk_at {J : It} {G : Hp → Prop} {xs : List V} {ds : List PyData} (w : Walk J xs.length G (YAt xs)) (r : RA K B xs ds) (hG : ∀ B1 H1, Ex B B1 → Ex B1 H1 → G H1) : Wlk K B J ds := by
  refine ⟨G, YAt xs, by rw [← r.length]; exact w, hG, fun i B1 H1 v H2 _ e1 e2 y => ?_⟩
  obtain ⟨rfl, h⟩ := y
  obtain ⟨d, h1, h2⟩ := r.getV h
  exact ⟨B1, d, h1, .refl e2, h2.mono e1⟩
def signs (z : Str) : List PyData := z.cps.toList.map fun c => .str ⟨#[c]⟩
theorem wlk_str (z : Str) : Wlk K B (Its z) (signs z) := by
  refine ⟨_, _, by have w := walk_str (z := z); rw [show (signs z).length = z.cps.size by simp [signs]]; exact w, fun _ _ _ _ => trivial, fun i B1 H1 v H2 _ e1 e2 y => ?_⟩
  obtain ⟨rfl, c, h, rfl⟩ := y
  refine ⟨B1, .str ⟨#[c]⟩, ?_, .refl e2, .str _⟩
  unfold signs
  rw [List.getElem?_map, Array.getElem?_toList, h]
  rfl
def rng (lo : Int) (n : Nat) : List PyData := (List.range n).map fun (i : Nat) => PyData.int (lo + (i : Int))
theorem wlk_rng (lo : Int) (n : Nat) : Wlk K B (Itr lo n) (rng lo n) := by
  refine ⟨_, _, by have w := walk_range (lo := lo) (n := n); rw [show (rng lo n).length = n by simp [rng]]; exact w, fun _ _ _ _ => trivial, fun i B1 H1 v H2 hi e1 e2 y => ?_⟩
  obtain ⟨rfl, rfl⟩ := y
  have hi : i < n := by simpa [rng] using hi
  exact ⟨B1, .int (lo + (i : Int)), by simp [rng, hi], .refl e2, .int _⟩
/-- the items a value has -/
def itemsD : PyData → M (List PyData)
  | .list ds => .ok ds
  | .tuple ds => .ok ds
  | .str z => .ok (signs z)
  | _ => .stuck
def iOf (f : Env → M Sl) : Env → M (List PyData) := fun ρ => (f ρ).bind fun x => itemsD x.d
theorem di_any (h : DE X E e fa) : DI X E tg e (iOf fa) := by
  obtain ⟨t, p, h⟩ := h
  refine ⟨_, pi_any p, fun B0 H0 B H σ ρ Q re q => ?_⟩
  refine run_e h re ?_
  rcases q.bind with ⟨x, e1, q⟩ | ⟨x, e1, q⟩
  · refine .inl ⟨x, e1, fun v B1 H1 g1 r1 => ?_⟩
    have q := IPost.grow g1 q
    cases z : x.d with
    | list ds =>
      rw [z] at q r1
      cases r1 with
      | lst hl ra => exact .inl ⟨_, rfl, .inl ⟨_, .of (g1.s _ _ hl), q _ B1 H1 (.refl g1.s) (wlk_at walk_list ra fun B2 H2 e1 e2 => .of (e2 _ _ (e1 _ _ hl)))⟩⟩
    | tuple ds =>
      rw [z] at q r1
      cases r1 with
      | tup hl ra => exact .inl ⟨_, rfl, .inr ⟨_, ex_u g1.s hl, q _ B1 H1 (.refl g1.s) (wlk_at walk_tup ra fun B2 H2 e1 e2 => ex_t e2 (ex_u e1 hl))⟩⟩
    | str w =>
      rw [z] at q r1
      cases r1
      exact .inr ⟨w, rfl, q _ B1 H1 (.refl g1.s) (wlk_str w)⟩
    | none => rw [z] at q; exact q.elim
    | bool b => rw [z] at q; exact q.elim
    | int b => rw [z] at q; exact q.elim
    | dict b => rw [z] at q; exact q.elim
  · exact .inr ⟨x, e1, q⟩
/-- new pairs of the i-th of two lists -/
theorem wlk_pair {J : It} {n : Nat} {G : Hp → Prop} {f g : Nat → Option V} {ds : List PyData} (w : Walk J n G (YPair f g)) (hn : ds.length = n) (hG : ∀ B1 H1, Ex B B1 → Ex B1 H1 → G H1)
    (hr : ∀ (i : Nat) x y, i < n → f i = some x → g i = some y → ∃ d d', ds[i]? = some (.tuple [d, d']) ∧ R K B x d ∧ R K B y d') : Wlk K B J ds := by
  refine ⟨G, _, by rw [hn]; exact w, hG, fun i B1 H1 v H2 hi e1 e2 y => ?_⟩
  obtain ⟨T, x, z, rfl, hT, rfl, h1, h2⟩ := y
  obtain ⟨d, d', h3, r1, r2⟩ := hr i x z (by rw [← hn]; exact hi) h1 h2
  have ne := Ex.new (o := HO.tup [x, z]) (e2.back hT)
  exact ⟨_, _, h3, .new e2 hT, .tup upd_same (.cons ((r1.mono e1).mono ne) (.cons ((r2.mono e1).mono ne) .nil))⟩
def enumD (ds : List PyData) : List PyData := ds.mapIdx fun i d => .tuple [.int (i : Nat), d]
theorem wlk_enum {a : Addr} {xs : List V} {ds : List PyData} {J : It} {G : Hp → Prop} (w : Walk J xs.length G (YPair (fun i => some (.int (i : Nat))) (fun i => xs[i]?))) (r : RA K B xs ds) (hG : ∀ B1 H1, Ex B B1 → Ex B1 H1 → G H1) : Wlk K B J (enumD ds) := by
  refine wlk_pair w (by simp [enumD, r.length]) hG fun i x y hi h1 h2 => ?_
  cases h1
  obtain ⟨d, h3, r3⟩ := r.getV h2
  exact ⟨.int (i : Nat), d, by simp [enumD, h3], .int _, r3⟩
theorem walk_enumT {a : Addr} {xs : List V} : Walk (IteT K a) xs.length (fun H => SqT K H a xs) (YPair (fun i => some (.int (i : Nat))) (fun i => xs[i]?)) := by
  refine ⟨fun i _ hi q => ⟨xs, xs[i], q, by simp [hi]⟩, fun _ q => ⟨xs, q, Nat.le_refl _⟩, fun i H v H' _ q y => ?_⟩
  obtain ⟨T, x, h1, h2, h3, h4⟩ := y
  exact ⟨T, .int (i : Nat), x, h1, h2, h3, rfl, h4 xs q⟩
theorem walk_zipT {a b : Addr} {xs ys : List V} {n : Nat} (hn : n = min xs.length ys.length) : Walk (ItzT K a b) n (fun H => SqT K H a xs ∧ SqT K H b ys) (YPair (fun i => xs[i]?) (fun i => ys[i]?)) := by
  subst hn
  refine ⟨fun i _ hi q => ?_, fun _ q => ⟨xs, ys, q.1, q.2, by omega⟩, fun i H v H' _ q y => ?_⟩
  · have h1 : i < xs.length := by omega
    have h2 : i < ys.length := by omega
    exact ⟨xs, ys, xs[i], ys[i], q.1, q.2, by simp [h1], by simp [h2]⟩
  · obtain ⟨T, x, z, h1, h2, h3, h4, h5⟩ := y
    exact ⟨T, x, z, h1, h2, h3, h4 xs q.1, h5 ys q.2⟩
def zipD (xs ys : List PyData) : List PyData := List.zipWith (fun a b => .tuple [a, b]) xs ys
theorem wlk_zip {xs ys : List V} {ds es : List PyData} {n : Nat} {J : It} {G : Hp → Prop} (hn : n = min xs.length ys.length) (w : Walk J n G (YPair (fun i => xs[i]?) (fun i => ys[i]?))) (r : RA K B xs ds) (q : RA K B ys es) (hG : ∀ B1 H1, Ex B B1 → Ex B1 H1 → G H1) : Wlk K B J (zipD ds es) := by
  refine wlk_pair w (by simp [zipD, hn, r.length, q.length]) hG fun i x y hi h1 h2 => ?_
  obtain ⟨d, h3, r3⟩ := r.getV h1
  obtain ⟨d', h4, r4⟩ := q.getV h2
  exact ⟨d, d', by simp [zipD, List.getElem?_zipWith, h3, h4], r3, r4⟩
/-- enumerate -/
def enumOf (ds : List PyData) : M (List PyData) := match ds with
  | [.list l] => .ok (enumD l)
  | [.tuple l] => .ok (enumD l)
  | _ => .stuck
def iAr (f : Env → M (List PyData)) (g : List PyData → M (List PyData)) : Env → M (List PyData) := fun ρ => (f ρ).bind g
theorem di_enum {fs : Env → M (List PyData)} {p tpos : Pos} {elts : List Expr} {kk : Nat} (hg : Gl X "enumerate") (hm : X.mg "enumerate" = none) (h : DA X E [e] fs) (hs : starEach [e] X.env = [(false, eval e X.env)] := by rfl) :
    DI X E (.Tuple elts kk tpos) (.Call (.Name "enumerate" p) [e] [] pos) (iAr fs enumOf) := by
  obtain ⟨t, pt, h⟩ := h
  refine ⟨_, pi_enumT hg hm pt hs, fun B0 H0 B H σ ρ Q re q => ?_⟩
  refine run_a h re ?_
  rcases q.bind with ⟨ds, e1, q⟩ | ⟨x, e1, q⟩
  · refine .inl ⟨ds, e1, fun vs B1 H1 g1 r1 => ?_⟩
    have q := IPost.grow g1 q
    unfold enumOf at q
    split at q
    · rename_i l
      cases r1 with
      | cons r1 r2 =>
        cases r2
        cases r1 with
        | lst hl ra => exact ⟨_, rfl, .inl ⟨_, .of (g1.s _ _ hl), q _ B1 H1 (.refl g1.s) (wlk_enum (a := 0) walk_enum ra fun B2 H2 e1 e2 => .of (e2 _ _ (e1 _ _ hl)))⟩⟩
    · rename_i l
      cases r1 with
      | cons r1 r2 =>
        cases r2
        cases r1 with
        | tup hl ra => exact ⟨_, rfl, .inr ⟨_, ex_u g1.s hl, q _ B1 H1 (.refl g1.s) (wlk_enum (a := 0) walk_enumT ra fun B2 H2 e1 e2 => ex_t e2 (ex_u e1 hl))⟩⟩
    · exact q.elim
  · exact .inr ⟨x, e1, q⟩
def zipOf (ds : List PyData) : M (List PyData) := match ds with
  | [.list a, .list b] => .ok (zipD a b)
  | [.tuple a, .tuple b] => .ok (zipD a b)
  | _ => .stuck
theorem di_zip {fs : Env → M (List PyData)} {p tpos : Pos} {elts : List Expr} {kk : Nat} (hg : Gl X "zip") (hm : X.mg "zip" = none) (h : DA X E [e, e2] fs)
    (hs : starEach [e, e2] X.env = (false, eval e X.env) :: starEach [e2] X.env := by rfl) (hpl : (backTo pos (starEach [e2] X.env)).any (·.1) = false := by rfl) :
    DI X E (.Tuple elts kk tpos) (.Call (.Name "zip" p) [e, e2] [] pos) (iAr fs zipOf) := by
  obtain ⟨t, pt, h⟩ := h
  refine ⟨_, pi_zipA hg hm pt hs hpl, fun B0 H0 B H σ ρ Q re q => ?_⟩
  refine run_a h re ?_
  rcases q.bind with ⟨ds, e1, q⟩ | ⟨x, e1, q⟩
  · refine .inl ⟨ds, e1, fun vs B1 H1 g1 r1 => ?_⟩
    have q := IPost.grow g1 q
    unfold zipOf at q
    split at q
    · cases r1 with
      | cons r1 r2 =>
        cases r2 with
        | cons r2 r3 =>
          cases r3
          cases r1 with
          | lst hl ra =>
            cases r2 with
            | lst hm rb => exact ⟨_, _, _, _, rfl, .inl ⟨.of (g1.s _ _ hl), .of (g1.s _ _ hm), q _ B1 H1 (.refl g1.s) (wlk_zip rfl (walk_zip rfl) ra rb fun B2 H2 e1 e2 => ⟨.of (e2 _ _ (e1 _ _ hl)), .of (e2 _ _ (e1 _ _ hm))⟩)⟩⟩
    · cases r1 with
      | cons r1 r2 =>
        cases r2 with
        | cons r2 r3 =>
          cases r3
          cases r1 with
          | tup hl ra =>
            cases r2 with
            | tup hm rb => exact ⟨_, _, _, _, rfl, .inr ⟨ex_u g1.s hl, ex_u g1.s hm, q _ B1 H1 (.refl g1.s) (wlk_zip rfl (walk_zipT rfl) ra rb fun B2 H2 e1 e2 => ⟨ex_t e2 (ex_u e1 hl), ex_t e2 (ex_u e1 hm)⟩)⟩⟩
    · exact q.elim
  · exact .inr ⟨x, e1, q⟩
/-- range -/
def rngOk (i : Int) : Bool := decide (i.natAbs ≤ 4611686018427387903)
def rng1Of (ds : List PyData) : M (List PyData) := match ds with
  | [.int j] => if rngOk j = true then .ok (rng 0 j.toNat) else .stuck
  | _ => .stuck
def rng2Of (ds : List PyData) : M (List PyData) := match ds with
  | [.int i, .int j] => if rngOk i = true ∧ rngOk j = true then .ok (rng i (j - i).toNat) else .stuck
  | _ => .stuck
theorem rngOk_ok {i : Int} (h : rngOk i = true) : -(2 ^ 62) ≤ i ∧ i < 2 ^ 62 := by
  have := of_decide_eq_true h
  omega
theorem di_rng1 {fs : Env → M (List PyData)} {p : Pos} (hg : Gl X "range") (hm : X.mg "range" = none) (h : DA X E [e] fs) (hs : starEach [e] X.env = [(false, eval e X.env)] := by rfl) : DI X E tg (.Call (.Name "range" p) [e] [] pos) (iAr fs rng1Of) := by
  obtain ⟨t, pt, h⟩ := h
  refine ⟨_, pi_range1 hg hm pt hs, fun B0 H0 B H σ ρ Q re q => ?_⟩
  refine run_a h re ?_
  rcases q.bind with ⟨ds, e1, q⟩ | ⟨x, e1, q⟩
  · refine .inl ⟨ds, e1, fun vs B1 H1 g1 r1 => ?_⟩
    have q := IPost.grow g1 q
    unfold rng1Of at q
    split at q
    · split at q
      · rename_i hb
        cases r1 with
        | cons r1 r2 =>
          cases r2
          cases r1
          have k := rngOk_ok hb
          exact ⟨_, rfl, k.1, k.2, q _ B1 H1 (.refl g1.s) (wlk_rng 0 _)⟩
      · exact q.elim
    · exact q.elim
  · exact .inr ⟨x, e1, q⟩
theorem di_rng2 {fs : Env → M (List PyData)} {p : Pos} (hg : Gl X "range") (hm : X.mg "range" = none) (h : DA X E [e, e2] fs) (hs : starEach [e, e2] X.env = [(false, eval e X.env), (false, eval e2 X.env)] := by rfl) (hs2 : starEach [e2] X.env = [(false, eval e2 X.env)] := by rfl) :
    DI X E tg (.Call (.Name "range" p) [e, e2] [] pos) (iAr fs rng2Of) := by
  obtain ⟨t, pt, h⟩ := h
  refine ⟨_, pi_range2 hg hm pt hs hs2, fun B0 H0 B H σ ρ Q re q => ?_⟩
  refine run_a h re ?_
  rcases q.bind with ⟨ds, e1, q⟩ | ⟨x, e1, q⟩
  · refine .inl ⟨ds, e1, fun vs B1 H1 g1 r1 => ?_⟩
    have q := IPost.grow g1 q
    unfold rng2Of at q
    split at q
    · split at q
      · rename_i hb
        cases r1 with
        | cons r1 r2 =>
          cases r2 with
          | cons r2 r3 =>
            cases r3
            cases r1
            cases r2
            have k := rngOk_ok hb.1
            have k2 := rngOk_ok hb.2
            exact ⟨_, _, rfl, ⟨k.1, k.2, k2.1, k2.2⟩, q _ B1 H1 (.refl g1.s) (wlk_rng _ _)⟩
      · exact q.elim
    · exact q.elim
  · exact .inr ⟨x, e1, q⟩
/-! ### comprehensions -/
def noX {α : Type} (r : M α) : M α := match r with
  | .exc _ => .stuck
  | r => r
def wipeE (ρ : Env) : List Nat → Env
  | [] => ρ
  | v :: vs => (wipeE ρ vs).set v none
theorem ER.wipe {B0 H0 : Hp} {σ : L2.St} {ρ : Env} (r : ER K B0 H0 B H σ ρ) : ∀ vs : List Nat, ER K B0 H0 B H (wipe σ vs) (wipeE ρ vs)
  | [] => r
  | _ :: vs => (ER.wipe r vs).drop
def lcF (bd : PyData → Env → M Env) (tt : Env → M Bool) (fe : Env → M Sl) : List PyData → Env → M (List PyData)
  | [], _ => .ok []
  | d :: ds, ρ => (noX (bd d ρ)).bind fun ρ1 => (noX (tt ρ1)).bind fun b => if b = true then (noX (fe ρ1)).bind fun y => (lcF bd tt fe ds ρ).bind fun ys => .ok (y.d :: ys) else lcF bd tt fe ds ρ
def eLc (fi : Env → M (List PyData)) (own : List Nat) (bd : PyData → Env → M Env) (tt : Env → M Bool) (fe : Env → M Sl) : Env → M Sl := fun ρ => (fi ρ).bind fun ds => (lcF bd tt fe ds (wipeE ρ own)).bind fun ys => if big ys.length = true then .ok (.own (.list ys)) else .stuck
theorem lcF_ne {bd : PyData → Env → M Env} {tt : Env → M Bool} {fe : Env → M Sl} : ∀ (ds : List PyData) (ρ : Env) (x : Str), lcF bd tt fe ds ρ ≠ .exc x
  | [], _, _, h => by cases h
  | d :: ds, ρ, x, h => by
    unfold lcF at h
    cases z1 : bd d ρ with
    | stuck => rw [z1] at h; cases h
    | exc y => rw [z1] at h; cases h
    | ok ρ1 =>
      rw [z1] at h
      simp only [noX, bind_ok] at h
      cases z2 : tt ρ1 with
      | stuck => rw [z2] at h; cases h
      | exc y => rw [z2] at h; cases h
      | ok b =>
        rw [z2] at h
        simp only [bind_ok] at h
        split at h
        · cases z3 : fe ρ1 with
          | stuck => rw [z3] at h; cases h
          | exc y => rw [z3] at h; cases h
          | ok y =>
            rw [z3] at h
            simp only [bind_ok] at h
            cases z4 : lcF bd tt fe ds ρ with
            | stuck => rw [z4] at h; cases h
            | exc y => exact lcF_ne ds ρ y z4
            | ok ys => rw [z4] at h; cases h
        · exact lcF_ne ds ρ x h
def DTs (X : Cx) (E : XK) (ifs : List Expr) (f : Env → M Bool) : Prop := ∃ t, PTs X ifs t ∧ ∀ B0 H0 B H σ ρ Q, ER X.K B0 H0 B H σ ρ → TPost X.K E B H (f ρ) Q → t σ H Q
theorem dts_nil : DTs X E [] (fun _ => .ok true) := ⟨_, pts_nil, fun B0 H0 B H σ ρ Q re q => q B H (.refl re.gr.s)⟩
theorem dts_one {c : Expr} {f : Env → M Bool} (h : DT X E c f) : DTs X E [c] f := let ⟨_, p, h⟩ := h; ⟨_, pts_one p, h⟩
theorem wipe_wipe {σ : L2.St} (vs : List Nat) : wipe (wipe σ vs) vs = wipe σ vs := by
  refine List.ext_getElem? fun j => ?_
  by_cases hj : j ∈ vs
  · rcases wipe_none (σ := σ) hj with e | e
    · rcases wipe_none (σ := wipe σ vs) hj with e2 | e2
      · rw [e, e2]
      · rw [wipe_length] at e2
        rw [List.getElem?_eq_none (by rw [wipe_length]; exact e2), List.getElem?_eq_none e2]
    · rw [List.getElem?_eq_none (by rw [wipe_length]; exact e), List.getElem?_eq_none e]
  · rw [wipe_not hj]
/-- the reading of a comprehension by data -/
theorem run_lc {X : Cx} {wi : TI} {g : TG} {tt : TT} {te : TE} {fi : Env → M (List PyData)} {own sl : List Nat} {bd : PyData → Env → M Env} {ft : Env → M Bool} {fe : Env → M Sl} (hsl : ∀ i ∈ sl, i ∈ own)
    (hi : ∀ B0 H0 B H σ ρ Q, ER X.K B0 H0 B H σ ρ → IPost X.K E B H (fi ρ) Q → wi σ H Q)
    (hg : ∀ B0 H0 B H σ ρ v d ρ' (Q : L2.St → Hp → Prop), ER X.K B0 H0 B H σ ρ → R X.K B v d → bd d ρ = .ok ρ' → (∀ σ', ER X.K B0 H0 B H σ' ρ' → OnlyAt sl σ σ' → Q σ' H) → g v σ H Q)
    (ht : ∀ B0 H0 B H σ ρ Q, ER X.K B0 H0 B H σ ρ → TPost X.K E0 B H (ft ρ) Q → tt σ H Q) (he : ∀ B0 H0 B H σ ρ Q, ER X.K B0 H0 B H σ ρ → EPost X.K E0 B H (fe ρ) Q → te σ H Q) :
    ∀ B0 H0 B H σ ρ Q, ER X.K B0 H0 B H σ ρ → EPost X.K E B H (eLc fi own bd ft fe ρ) Q → tLc wi g tt te own σ H Q := by
  intro B0 H0 B H σ ρ Q re q
  refine hi B0 H0 B H σ ρ _ re ?_
  rcases q.bind with ⟨ds, e1, q⟩ | ⟨x, e1, q⟩
  · rw [e1]
    intro J B1 H1 g1 w
    have q := EPost.grow g1 q
    rcases q.bind with ⟨ys, e2, q⟩ | ⟨x, e2, _⟩
    · split at q
      · rename_i hbig
        obtain ⟨G, Y, w, hG, hY⟩ := w
        intro D hD
        have re1 := re.grow g1
        refine lc_it w (fun i H' => ∃ B' acc dn rest, Gr B1 H1 B' H' ∧ B' D = none ∧ H' D = some (.lst acc) ∧ RA X.K B' acc dn ∧ lcF bd ft fe (ds.drop i) (wipeE ρ own) = .ok rest ∧ dn ++ rest = ys)
          ⟨B1, [], [], ys, .own g1.s hD, g1.s.back hD, upd_same, .nil, e2, rfl⟩ (fun i H' _ ⟨B', _, _, _, g', _⟩ => hG B' H' g'.b g'.s) ?_ ?_
        · rintro i v H2 H3 hlt ⟨B', acc, dn, rs, g', nD, hacc, ra, hrest, hy⟩ y
          obtain ⟨B2, d, hd, g2, rv⟩ := hY i B' H2 v H3 hlt g'.b g'.s y
          have hdr : ds.drop i = d :: ds.drop (i + 1) := by
            have hh : i < ds.length := hlt
            rw [List.getElem?_eq_getElem hh] at hd
            cases hd
            exact List.drop_eq_getElem_cons hh
          rw [hdr] at hrest
          unfold lcF at hrest
          have g12 := g'.trans g2
          cases z1 : bd d (wipeE ρ own) with
          | stuck => rw [z1] at hrest; cases hrest
          | exc x => rw [z1] at hrest; cases hrest
          | ok ρ1 =>
            rw [z1] at hrest
            simp only [noX, bind_ok] at hrest
            refine hg B0 H0 B2 H3 (wipe σ own) (wipeE ρ own) v d ρ1 _ ((re1.grow g12).wipe own) rv z1 fun σ2 re2 only => ⟨(only own hsl).trans (wipe_wipe own), ?_⟩
            refine ht B0 H0 B2 H3 σ2 ρ1 _ re2 ?_
            cases z2 : ft ρ1 with
            | stuck => rw [z2] at hrest; cases hrest
            | exc x => rw [z2] at hrest; cases hrest
            | ok b =>
              rw [z2] at hrest
              simp only [bind_ok] at hrest
              intro B3 H4 g3
              have g13 := g12.trans g3
              have n3 : B3 D = none := (g2.trans g3).lm hacc nD (fun _ h => nomatch h)
              have a3 : H4 D = some (.lst acc) := (g2.trans g3).h D _ hacc
              cases b with
              | false =>
                rw [if_neg Bool.false_ne_true] at hrest ⊢
                exact ⟨B3, acc, dn, rs, g13, n3, a3, ra.mono (g2.trans g3).b, hrest, hy⟩
              | true =>
                rw [if_pos rfl] at hrest ⊢
                refine he B0 H0 B3 H4 σ2 ρ1 _ (re2.grow g3) ?_
                cases z3 : fe ρ1 with
                | stuck => rw [z3] at hrest; cases hrest
                | exc x => rw [z3] at hrest; cases hrest
                | ok yv =>
                  rw [z3] at hrest
                  simp only [bind_ok] at hrest
                  cases z4 : lcF bd ft fe (ds.drop (i + 1)) (wipeE ρ own) with
                  | stuck => rw [z4] at hrest; cases hrest
                  | exc x => rw [z4] at hrest; cases hrest
                  | ok rs' =>
                    rw [z4] at hrest
                    cases hrest
                    intro u B4 H5 g4 r4
                    obtain ⟨B5, g5, r5⟩ := r4.fix g4
                    have g15 := g13.trans g5
                    have n5 : B5 D = none := g5.lm a3 n3 (fun _ h => nomatch h)
                    have a5 : H5 D = some (.lst acc) := g5.h D _ a3
                    have hlen : acc.length < sizeLine := by
                      have k := big_ok hbig
                      have k2 : dn.length + (rs'.length + 1) = ys.length := by rw [← hy, List.length_append, List.length_cons]
                      rw [ra.length]
                      omega
                    refine ⟨acc, a5, hlen, B5, acc ++ [u], dn ++ [yv.d], rs', ⟨g15.b, fun a o h => ?_, fun a o h => ?_, g15.l⟩, n5, upd_same, (ra.mono ((g2.trans g3).b.trans g5.b)).snoc r5, rfl, by rw [List.append_assoc]; exact hy⟩
                    · rw [upd_ne (ne_of_none h hD)]
                      exact g15.h a o h
                    · rw [upd_ne (ne_of_none h n5)]
                      exact g15.s a o h
        · rintro H2 ⟨B', acc, dn, rs, g', nD, hacc, ra, hrest, hy⟩
          rw [List.drop_length] at hrest
          cases hrest
          rw [List.append_nil] at hy
          subst hy
          exact q _ B' H2 g' ⟨D, _, rfl, hD, nD, hacc, .lst ra⟩
      · exact q.elim
    · exact absurd e2 (lcF_ne _ _ _)
  · rw [e1]
    exact q
/-! the readings that need no more than the data -/
def rdE (K : PySem.W.Frag) (E : XK) (f : Env → M Sl) : TE := fun σ H Q => ∃ B0 H0 B ρ, ER K B0 H0 B H σ ρ ∧ EPost K E B H (f ρ) Q
def rdT (K : PySem.W.Frag) (E : XK) (f : Env → M Bool) : TT := fun σ H Q => ∃ B0 H0 B ρ, ER K B0 H0 B H σ ρ ∧ TPost K E B H (f ρ) Q
def rdG (K : PySem.W.Frag) (sl : List Nat) (bd : PyData → Env → M Env) : TG := fun v σ H Q => ∃ B0 H0 B ρ d ρ', ER K B0 H0 B H σ ρ ∧ R K B v d ∧ bd d ρ = .ok ρ' ∧ ∀ σ', ER K B0 H0 B H σ' ρ' → OnlyAt sl σ σ' → Q σ' H
theorem DE.pe {X : Cx} (h : DE X E e fa) : PE X e (rdE X.K E fa) := by
  obtain ⟨t, p, h⟩ := h
  exact ⟨fun pins s σ H Q I ⟨B0, H0, B, ρ, re, q⟩ => p.run pins s σ H Q I (h B0 H0 B H σ ρ Q re q)⟩
theorem DTs.pts {X : Cx} {ifs : List Expr} {ft : Env → M Bool} (h : DTs X E ifs ft) : PTs X ifs (rdT X.K E ft) := by
  obtain ⟨t, p, h⟩ := h
  exact ⟨fun pins s σ H Q I ⟨B0, H0, B, ρ, re, q⟩ => p.run pins s σ H Q I (h B0 H0 B H σ ρ Q re q)⟩
theorem DG.pg {X : Cx} {sl : List Nat} {bd : PyData → Env → M Env} (h : DG X tg sl bd) : PG X tg (rdG X.K sl bd) := by
  obtain ⟨t, p, h⟩ := h
  exact ⟨fun pins s σ H v u Q I r ⟨B0, H0, B, ρ, d, ρ', re, rv, e, q⟩ => p.run pins s σ H v u Q I r (h B0 H0 B H σ ρ v d ρ' Q re rv e q)⟩
variable {elt iter : Expr} {ifs : List Expr} {scope : Scope} {own : List (Str × Nat)} {sl : List Nat} {bd : PyData → Env → M Env} {ft : Env → M Bool} {fe : Env → M Sl} {fi : Env → M (List PyData)}
theorem de_lc (hc : X.calm = true) (hN : X.N.Nodup) (hi : DI X E tg iter fi) (ok : BlkOk X.N X.env.scope scope own) (hsl : ∀ i ∈ sl, i ∈ own.map (·.2))
    (hg : ∀ (s : Shared) (H : Hp) (C : Addr) (cl : List (Str × Addr)) (fp : List Addr), DG (X.blk s H scope (compEnvC scope cl C X.env) fp) tg sl bd)
    (ht : ∀ (s : Shared) (H : Hp) (C : Addr) (cl : List (Str × Addr)) (fp : List Addr), DTs (X.blk s H scope (compEnvC scope cl C X.env) fp) E0 ifs ft)
    (he : ∀ (s : Shared) (H : Hp) (C : Addr) (cl : List (Str × Addr)) (fp : List Addr), DE (X.blk s H scope (compEnvC scope cl C X.env) fp) E0 elt fe) (hs : ∀ x, foldedSetIterable iter X.env x = pure x := by intro _; rfl) :
    DE X E (.ListComp elt [⟨tg, iter, ifs, 0⟩] scope pos) (eLc fi (own.map (·.2)) bd ft fe) := by
  obtain ⟨wi, pi, hi⟩ := hi
  exact ⟨_, pe_lc (g := rdG X.K sl bd) (tt := rdT X.K E0 ft) (te := rdE X.K E0 fe) hc hN pi ok (fun s H C cl fp => (hg s H C cl fp).pg) (fun s H C cl fp => (ht s H C cl fp).pts) (fun s H C cl fp => (he s H C cl fp).pe) hs,
    run_lc hsl hi (fun B0 H0 B H σ ρ v d ρ' Q re rv e q => ⟨B0, H0, B, ρ, d, ρ', re, rv, e, q⟩) (fun B0 H0 B H σ ρ Q re q => ⟨B0, H0, B, ρ, re, q⟩) (fun B0 H0 B H σ ρ Q re q => ⟨B0, H0, B, ρ, re, q⟩)⟩
/-- name = [..] -/
theorem ds_setLc {i : Nat} {y : Str} {py spos : Pos} (hc : X.calm = true) (hN : X.N.Nodup) (hy : X.N[i]? = some y) (hyl : X.env.scope.names.lookup y = some .local)
    (hsw : swapsWith (.ListComp elt [⟨tg, iter, ifs, 0⟩] scope pos) (some (.Name y py)) spos.line X.env = pure true) (hi : DI X E tg iter fi) (ok : BlkOk X.N X.env.scope scope own) (hsl : ∀ i ∈ sl, i ∈ own.map (·.2))
    (hg : ∀ (s : Shared) (H : Hp) (C : Addr) (cl : List (Str × Addr)) (fp : List Addr), DG (X.blk s H scope (compEnvC scope cl C X.env) fp) tg sl bd)
    (ht : ∀ (s : Shared) (H : Hp) (C : Addr) (cl : List (Str × Addr)) (fp : List Addr), DTs (X.blk s H scope (compEnvC scope cl C X.env) fp) E0 ifs ft)
    (he : ∀ (s : Shared) (H : Hp) (C : Addr) (cl : List (Str × Addr)) (fp : List Addr), DE (X.blk s H scope (compEnvC scope cl C X.env) fp) E0 elt fe) (hs : ∀ x, foldedSetIterable iter X.env x = pure x := by intro _; rfl) :
    DS X E (.Assign [.Name y py] (.ListComp elt [⟨tg, iter, ifs, 0⟩] scope pos) spos) (oSet i (eLc fi (own.map (·.2)) bd ft fe)) := by
  obtain ⟨wi, pi, hi⟩ := hi
  refine ⟨_, ps_setLc (g := rdG X.K sl bd) (tt := rdT X.K E0 ft) (te := rdE X.K E0 fe) hc hN hy hyl hsw pi ok (fun s H C cl fp => (hg s H C cl fp).pg) (fun s H C cl fp => (ht s H C cl fp).pts) (fun s H C cl fp => (he s H C cl fp).pe) hs, fun B0 H0 B H σ ρ D re q => ?_⟩
  refine run_lc (sl := sl) (bd := bd) (ft := ft) (fe := fe) hsl hi (fun B0 H0 B H σ ρ v d ρ' Q re rv e q => ⟨B0, H0, B, ρ, d, ρ', re, rv, e, q⟩) (fun B0 H0 B H σ ρ Q re q => ⟨B0, H0, B, ρ, re, q⟩) (fun B0 H0 B H σ ρ Q re q => ⟨B0, H0, B, ρ, re, q⟩) B0 H0 B H σ ρ _ re ?_
  exact epost_of re q fun sl _ q v B' H' g r => q B' H' _ g.b (re.put g r)
end
end Dl
/-! The data layer: operators. -/
namespace Dl
open PySem PySem.Spec PyProof.Rows L2
section
variable {X : Cx} {E : XK}
abbrev retB (b : Bool) : M Sl := .ok (.dat (.bool b))
abbrev retI (i : Int) : M Sl := .ok (.dat (.int i))
abbrev retS (x : Str) : M Sl := .ok (.dat (.str x))
/-! ### == -/
def gEqB (d e : PyData) : M Bool := match d, e with
  | .int i, .int j => .ok (decide (i = j))
  | .str i, .str j => .ok (decide (i = j))
  | .bool i, .bool j => .ok (decide (i = j))
  | d, e => if SeqAt.shaped d = true ∧ SeqAt.shaped e = true then .ok (PyData.eqv d e) else .stuck
def gEq (d e : PyData) : M Sl := (gEqB d e).bind fun b => retB b
def gNe (d e : PyData) : M Sl := (gEqB d e).bind fun b => retB (!b)
theorem eq_cases {K : PySem.W.Frag} {B H : Hp} {x y : V} {d e : PyData} {Q : Bool → Prop} (ex : Ex B H) (rx : R K B x d) (ry : R K B y e) (h : ∃ b, gEqB d e = .ok b ∧ Q b) :
    (scal x y = true ∧ Q (decide (x = y))) ∨ ∃ d e, Dp K H x d ∧ Dp K H y e ∧ SeqAt.shaped d = true ∧ SeqAt.shaped e = true ∧ Q (PyData.eqv d e) := by
  obtain ⟨b, hb, q⟩ := h
  unfold gEqB at hb
  split at hb
  · cases rx
    cases ry
    cases hb
    refine .inl ⟨rfl, ?_⟩
    rename_i i j
    rw [show (decide (V.int i = V.int j)) = decide (i = j) by simp]
    exact q
  · cases rx
    cases ry
    cases hb
    refine .inl ⟨rfl, ?_⟩
    rename_i i j
    rw [show (decide (V.str i = V.str j)) = decide (i = j) by simp]
    exact q
  · cases rx
    cases ry
    cases hb
    refine .inl ⟨rfl, ?_⟩
    rename_i i j
    rw [show (decide (V.bl i = V.bl j)) = decide (i = j) by simp]
    exact q
  · split at hb
    · rename_i hs
      cases hb
      exact .inr ⟨d, e, (rx.mono ex).dp (SeqAt.canLay_of_shaped hs.1), (ry.mono ex).dp (SeqAt.canLay_of_shaped hs.2), hs.1, hs.2, q⟩
    · cases hb
theorem gEqB_ne {d e : PyData} {x : Str} : gEqB d e ≠ .exc x := by
  unfold gEqB
  split <;> try (intro h; cases h; done)
  split <;> (intro h; cases h)
def rEqA (K : PySem.W.Frag) : R2 := fun x y H Q => rEq x y H Q ∨ rEqD K x y H Q
def rNeA (K : PySem.W.Frag) : R2 := fun x y H Q => rNe x y H Q ∨ rNeD K x y H Q
theorem op_eqA (hu : X.A.units + 64 < cLine) : OpR X (compareOp .Eq) (rEqA X.K) := op_eq.or (op_eqD hu)
theorem op_neA (hu : X.A.units + 64 < cLine) : OpR X (compareOp .NotEq) (rNeA X.K) := op_ne.or (op_neD hu)
theorem od_eq : OpD X E (rEqA X.K) gEq := by
  intro x y d e B H Q ex rx ry q
  unfold gEq at q
  cases hb : gEqB d e with
  | stuck => rw [hb] at q; exact q.elim
  | exc x => exact (gEqB_ne hb).elim
  | ok b =>
    rw [hb] at q
    exact (eq_cases (Q := fun b => Q (.bl b) H) ex rx ry ⟨b, hb, q.val ex (.bl _)⟩)
theorem od_ne : OpD X E (rNeA X.K) gNe := by
  intro x y d e B H Q ex rx ry q
  unfold gNe at q
  cases hb : gEqB d e with
  | stuck => rw [hb] at q; exact q.elim
  | exc x => exact (gEqB_ne hb).elim
  | ok b =>
    rw [hb] at q
    exact (eq_cases (Q := fun b => Q (.bl (!b)) H) ex rx ry ⟨b, hb, q.val ex (.bl _)⟩)
/-! ### < <= > >= -/
def cmpI (op : CmpOp) (i j : Int) : Bool := match op with
  | .Lt => decide (i < j)
  | .LtE => decide (i ≤ j)
  | .Gt => decide (j < i)
  | .GtE => decide (j ≤ i)
  | _ => false
def lexD (op : CmpOp) (f : PyData → PyData → Option Bool) : List PyData → List PyData → Option Bool
  | [], [] => some (cmpI op 0 0)
  | [], _ :: _ => some (cmpI op 0 1)
  | _ :: _, [] => some (cmpI op 1 0)
  | x :: xs, y :: ys => if PyData.eqv x y = true then lexD op f xs ys else (lexD op f xs ys).bind fun _ => f x y
def cmpD (op : CmpOp) : Nat → PyData → PyData → Option Bool
  | 0, _, _ => none
  | _ + 1, .int i, .int j => some (cmpI op i j)
  | n + 1, .tuple a, .tuple b => lexD op (cmpD op n) a b
  | _ + 1, _, _ => none
def isCmp (op : CmpOp) : Bool := match op with
  | .Lt => true
  | .LtE => true
  | .Gt => true
  | .GtE => true
  | _ => false
theorem lexAt_shift (e r : Nat → Bool) (z : Bool) : ∀ (k i : Nat), Ob.lexAt (fun j => e (j + 1)) (fun j => r (j + 1)) z i k = Ob.lexAt e r z (i + 1) k
  | 0, _ => rfl
  | k + 1, i => by
    rw [Ob.lexAt_succ, Ob.lexAt_succ, lexAt_shift e r z k (i + 1)]
theorem cmpI_shift {op : CmpOp} {a b : Nat} : cmpI op ((a + 1 : Nat) : Int) ((b + 1 : Nat) : Int) = cmpI op (a : Int) (b : Int) := by
  cases op <;> simp only [cmpI, decide_eq_decide] <;> omega
theorem lexD_spec {op : CmpOp} {f : PyData → PyData → Option Bool} : ∀ {xs ys : List PyData} {b : Bool}, lexD op f xs ys = some b →
    (∀ j, j < xs.length → j < ys.length → SeqAt.pairEq xs ys j = false → f (xs.getD j .none) (ys.getD j .none) = some ((f (xs.getD j .none) (ys.getD j .none)).getD false)) ∧
    Ob.lexAt (fun j => SeqAt.pairEq xs ys j) (fun j => (f (xs.getD j .none) (ys.getD j .none)).getD false) (cmpI op xs.length ys.length) 0 (min xs.length ys.length) = b
  | [], [], b, h => ⟨fun j h1 => absurd h1 (Nat.not_lt_zero _), Option.some.inj h⟩
  | [], y :: ys, b, h => by
    refine ⟨fun j h1 => absurd h1 (Nat.not_lt_zero _), ?_⟩
    rw [← Option.some.inj h]
    show cmpI op ((0 : Nat) : Int) ((ys.length + 1 : Nat) : Int) = cmpI op 0 1
    cases op <;> simp only [cmpI, decide_eq_decide] <;> omega
  | x :: xs, [], b, h => by
    refine ⟨fun j _ h1 => absurd h1 (Nat.not_lt_zero _), ?_⟩
    rw [← Option.some.inj h]
    show cmpI op ((xs.length + 1 : Nat) : Int) ((0 : Nat) : Int) = cmpI op 1 0
    cases op <;> simp only [cmpI, decide_eq_decide] <;> omega
  | x :: xs, y :: ys, b, h => by
    have step : ∀ b', lexD op f xs ys = some b' → (PyData.eqv x y = false → f x y = some ((f x y).getD false)) → (∀ j, j < (x :: xs).length → j < (y :: ys).length → SeqAt.pairEq (x :: xs) (y :: ys) j = false → f ((x :: xs).getD j .none) ((y :: ys).getD j .none) = some ((f ((x :: xs).getD j .none) ((y :: ys).getD j .none)).getD false)) ∧
        Ob.lexAt (fun j => SeqAt.pairEq (x :: xs) (y :: ys) j) (fun j => (f ((x :: xs).getD j .none) ((y :: ys).getD j .none)).getD false) (cmpI op (x :: xs).length (y :: ys).length) 1 (min xs.length ys.length) = b' := by
      intro b' hb hxy
      obtain ⟨h1, h2⟩ := lexD_spec hb
      refine ⟨fun j l1 l2 e => ?_, ?_⟩
      · cases j with
        | zero => exact hxy e
        | succ j => exact h1 j (Nat.lt_of_succ_lt_succ l1) (Nat.lt_of_succ_lt_succ l2) e
      · rw [← h2, ← lexAt_shift]
        show Ob.lexAt _ _ (cmpI op ((xs.length + 1 : Nat) : Int) ((ys.length + 1 : Nat) : Int)) _ _ = _
        rw [cmpI_shift]
        rfl
    have hmin : min (x :: xs).length (y :: ys).length = min xs.length ys.length + 1 := by
      simp only [List.length_cons]
      omega
    unfold lexD at h
    split at h
    · rename_i hxy
      obtain ⟨k1, k2⟩ := step b h fun e => by rw [hxy] at e; cases e
      refine ⟨k1, ?_⟩
      rw [hmin, Ob.lexAt_succ, if_pos (show SeqAt.pairEq (x :: xs) (y :: ys) 0 = true from hxy)]
      exact k2
    · rename_i hxy
      cases q : lexD op f xs ys with
      | none => rw [q] at h; cases h
      | some b' =>
        rw [q] at h
        have hf : f x y = some b := h
        obtain ⟨k1, _⟩ := step b' q fun _ => by rw [hf]; rfl
        refine ⟨k1, ?_⟩
        rw [hmin, Ob.lexAt_succ, if_neg (show ¬ SeqAt.pairEq (x :: xs) (y :: ys) 0 = true from hxy)]
        show (f x y).getD false = b
        rw [hf]
        rfl
theorem rc_tuples {op : CmpOp} (hop : isCmp op = true) {A : Around} {s : Shared} {l b : Addr} {items items2 : Array Value} {e r : Nat → Bool} (hl : s.heap.IsTuple l items) (hb : s.heap.IsTuple b items2) (hu : A.units < cLine)
    (he : ∀ j (h1 : j < items.size) (h2 : j < items2.size), SeqAt.EqAt A.in1 s items[j] items2[j] (e j))
    (hr : ∀ j (h1 : j < items.size) (h2 : j < items2.size), e j = false → Ob.RcOp op A.in1 s items[j] items2[j] (r j)) :
    Ob.RcOp op A s (.ref l) (.ref b) (Ob.lexAt e r (cmpI op items.size items2.size) 0 (min items.size items2.size)) := by
  cases op with
  | Lt =>
    have := Ob.RcOp.tuples_lt hl hb hu he hr
    rw [show cmpI .Lt items.size items2.size = decide (items.size < items2.size) by simp [cmpI]]
    exact this
  | LtE =>
    have := Ob.RcOp.tuples_le hl hb hu he hr
    rw [show cmpI .LtE items.size items2.size = decide (items.size ≤ items2.size) by simp [cmpI]]
    exact this
  | Gt =>
    have := Ob.RcOp.tuples_gt hl hb hu he hr
    rw [show cmpI .Gt items.size items2.size = decide (items2.size < items.size) by simp [cmpI]]
    exact this
  | GtE =>
    have := Ob.RcOp.tuples_ge hl hb hu he hr
    rw [show cmpI .GtE items.size items2.size = decide (items2.size ≤ items.size) by simp [cmpI]]
    exact this
  | _ => cases hop
theorem rc_ints {op : CmpOp} (hop : isCmp op = true) {A : Around} {s : Shared} (i j : Int) (t u : Tok) : Ob.RcOp op A s (.int i t) (.int j u) (cmpI op i j) := by
  cases op with
  | Lt => exact .lt_int i j t u
  | LtE => exact .le_int i j t u
  | Gt => exact .gt_int i j t u
  | GtE => exact .ge_int i j t u
  | _ => cases hop
open SeqAt in
theorem readsAll_get {h : Heap} : ∀ {vs : List Value} {ds : List PyData} {as : List Addr}, ReadsAll h vs ds as → ∀ j (hj : j < vs.length), j < ds.length ∧ ∃ bs, Reads h vs[j] (ds.getD j .none) bs
  | _, _, _, .cons r q, 0, _ => ⟨Nat.zero_lt_succ _, _, r⟩
  | _, _, _, .cons r q, j + 1, hj => by
    obtain ⟨h1, h2⟩ := readsAll_get q j (Nat.lt_of_succ_lt_succ hj)
    exact ⟨Nat.succ_lt_succ h1, h2⟩
open SeqAt in
theorem rc_reads {op : CmpOp} (hop : isCmp op = true) : ∀ (n : Nat) (da db : PyData) (A : Around) (s : Shared) (a b : Value) (as bs : List Addr) (r : Bool), Reads s.heap a da as → Reads s.heap b db bs → da.canLay0 = true → db.canLay0 = true →
    cmpD op n da db = some r → A.units + da.depth + db.depth < cLine → Ob.RcOp op A s a b r
  | 0, _, _, _, _, _, _, _, _, _, _, _, _, _, h, _ => by cases h
  | n + 1, .int i, .int j, A, s, a, b, _, _, r, ra, rb, _, _, h, _ => by
    cases ra
    cases rb
    cases h
    exact rc_ints hop _ _ _ _
  | n + 1, .tuple xs, .tuple ys, A, s, a, b, _, _, r, ra, rb, ha, hb, h, hu => by
    cases ra with
    | @tuple l o vs m _ as₁ h1 h2 h3 h4 =>
      cases rb with
      | @tuple l' o' vs' m' _ bs₁ k1 k2 k3 k4 =>
        have hl : s.heap.IsTuple l vs := ⟨_, h1, h2, _, h3⟩
        have hl' : s.heap.IsTuple l' vs' := ⟨_, k1, k2, _, k3⟩
        have n1 : vs.size = xs.length := by simpa using ReadsAll.length _ _ _ h4
        have n2 : vs'.size = ys.length := by simpa using ReadsAll.length _ _ _ k4
        have hd1 : (PyData.tuple xs).depth = PyData.depthAll xs + 1 := by rw [PyData.depth]
        have hd2 : (PyData.tuple ys).depth = PyData.depthAll ys + 1 := by rw [PyData.depth]
        rw [hd1, hd2] at hu
        have h : lexD op (cmpD op n) xs ys = some r := h
        obtain ⟨q1, q2⟩ := lexD_spec h
        have lay : ∀ (zs : List PyData) j, j < zs.length → PyData.canLayAll0 zs = true → (zs.getD j .none).canLay0 = true := by
          intro zs
          induction zs with
          | nil => intro j hj _; exact absurd hj (Nat.not_lt_zero _)
          | cons z zs ih =>
            intro j hj hc
            rw [PyData.canLayAll0, Bool.and_eq_true] at hc
            cases j with
            | zero => exact hc.1
            | succ j => exact ih j (Nat.lt_of_succ_lt_succ hj) hc.2
        have dep : ∀ (zs : List PyData) j, j < zs.length → (zs.getD j .none).depth ≤ PyData.depthAll zs := by
          intro zs j hj
          refine PyData.depth_le_depthAll zs _ ?_
          rw [List.getD_eq_getElem?_getD, List.getElem?_eq_getElem hj]
          exact List.getElem_mem hj
        have ha' : PyData.canLayAll0 xs = true := by simpa [PyData.canLay0] using ha
        have hb' : PyData.canLayAll0 ys = true := by simpa [PyData.canLay0] using hb
        rw [← q2, ← n1, ← n2]
        refine rc_tuples hop hl hl' (by omega) (fun j j1 j2 => ?_) fun j j1 j2 ne => ?_
        · have := SeqAt.eqAt_readsAll xs ys A.in1 s vs.toList vs'.toList _ _ h4 k4 ha' hb' (by show A.units + 1 + _ < _; omega) j (by simpa using j1) (by simpa using j2)
          simpa using this
        · obtain ⟨l1, _, r1⟩ := readsAll_get h4 j (by simpa using j1)
          obtain ⟨l2, _, r2⟩ := readsAll_get k4 j (by simpa using j2)
          have d1 := dep xs j l1
          have d2 := dep ys j l2
          have := rc_reads hop n _ _ A.in1 s _ _ _ _ _ r1 r2 (lay xs j l1 ha') (lay ys j l2 hb') (q1 j l1 l2 ne) (by show A.units + 1 + _ + _ < _; omega)
          simpa using this
  | n + 1, .none, _, _, _, _, _, _, _, _, _, _, _, _, h, _ => by cases h
  | n + 1, .bool _, _, _, _, _, _, _, _, _, _, _, _, _, h, _ => by cases h
  | n + 1, .str _, _, _, _, _, _, _, _, _, _, _, _, _, h, _ => by cases h
  | n + 1, .list _, _, _, _, _, _, _, _, _, _, _, _, _, h, _ => by cases h
  | n + 1, .dict _, _, _, _, _, _, _, _, _, _, _, _, _, h, _ => by cases h
  | n + 1, .int _, .none, _, _, _, _, _, _, _, _, _, _, _, h, _ => by cases h
  | n + 1, .int _, .bool _, _, _, _, _, _, _, _, _, _, _, _, h, _ => by cases h
  | n + 1, .int _, .str _, _, _, _, _, _, _, _, _, _, _, _, h, _ => by cases h
  | n + 1, .int _, .list _, _, _, _, _, _, _, _, _, _, _, _, h, _ => by cases h
  | n + 1, .int _, .tuple _, _, _, _, _, _, _, _, _, _, _, _, h, _ => by cases h
  | n + 1, .int _, .dict _, _, _, _, _, _, _, _, _, _, _, _, h, _ => by cases h
  | n + 1, .tuple _, .none, _, _, _, _, _, _, _, _, _, _, _, h, _ => by cases h
  | n + 1, .tuple _, .bool _, _, _, _, _, _, _, _, _, _, _, _, h, _ => by cases h
  | n + 1, .tuple _, .str _, _, _, _, _, _, _, _, _, _, _, _, h, _ => by cases h
  | n + 1, .tuple _, .list _, _, _, _, _, _, _, _, _, _, _, _, h, _ => by cases h
  | n + 1, .tuple _, .int _, _, _, _, _, _, _, _, _, _, _, _, h, _ => by cases h
  | n + 1, .tuple _, .dict _, _, _, _, _, _, _, _, _, _, _, _, h, _ => by cases h
/-- data of ints and tuples of them, four deep: a op b -/
def rCmpD (K : PySem.W.Frag) (op : CmpOp) : R2 := fun x y H Q => ∃ d e b, Dp K H x d ∧ Dp K H y e ∧ SeqAt.shaped d = true ∧ SeqAt.shaped e = true ∧ d.depth ≤ 30 ∧ e.depth ≤ 30 ∧ cmpD op 4 d e = some b ∧ Q (.bl b) H
theorem op_cmpD {op : CmpOp} (hop : isCmp op = true) (hu : X.A.units + 64 < cLine) : OpR X (compareOp op) (rCmpD X.K op) := by
  intro pins s σ H x y v u Q I rx ry h
  obtain ⟨d, e, b, hd, he, sd, se, dd, de, hc, q⟩ := h
  obtain ⟨as, r1⟩ := Dp.reads I d x v hd rx
  obtain ⟨bs, r2⟩ := Dp.reads I e y u he ry
  have z := rc_reads hop 4 d e X.A s v u as bs b r1 r2 (SeqAt.canLay_of_shaped sd) (SeqAt.canLay_of_shaped se) hc (by omega)
  cases op with
  | Lt => exact z X.prog X.w X.xe (EP X pins σ Q) ⟨.bl _, H, I, rfl, q⟩
  | LtE => exact z X.prog X.w X.xe (EP X pins σ Q) ⟨.bl _, H, I, rfl, q⟩
  | Gt => exact z X.prog X.w X.xe (EP X pins σ Q) ⟨.bl _, H, I, rfl, q⟩
  | GtE => exact z X.prog X.w X.xe (EP X pins σ Q) ⟨.bl _, H, I, rfl, q⟩
  | _ => cases hop
def rCmpA (K : PySem.W.Frag) (op : CmpOp) : R2 := fun x y H Q => rI0 (fun i j => .bl (cmpI op i j)) x y H Q ∨ rCmpD K op x y H Q
theorem op_cmpA {op : CmpOp} (hop : isCmp op = true) (hu : X.A.units + 64 < cLine) : OpR X (compareOp op) (rCmpA X.K op) := by
  cases op with
  | Lt => exact op_lt.or (op_cmpD hop hu)
  | LtE => exact op_le.or (op_cmpD hop hu)
  | Gt => exact op_gt.or (op_cmpD hop hu)
  | GtE => exact op_ge.or (op_cmpD hop hu)
  | _ => cases hop
def gCmp (op : CmpOp) (d e : PyData) : M Sl := match d, e with
  | .int i, .int j => retB (cmpI op i j)
  | d, e => if SeqAt.shaped d = true ∧ SeqAt.shaped e = true ∧ d.depth ≤ 30 ∧ e.depth ≤ 30 then (match cmpD op 4 d e with
    | some b => retB b
    | none => .stuck) else .stuck
theorem od_cmp {op : CmpOp} : OpD X E (rCmpA X.K op) (gCmp op) := by
  intro x y d e B H Q ex rx ry q
  unfold gCmp at q
  split at q
  · cases rx
    cases ry
    exact .inl ⟨_, _, rfl, rfl, q.val ex (.bl _)⟩
  · split at q
    · rename_i h
      obtain ⟨h1, h2, h3, h4⟩ := h
      split at q
      · rename_i b hb
        exact .inr ⟨d, e, b, (rx.mono ex).dp (SeqAt.canLay_of_shaped h1), (ry.mono ex).dp (SeqAt.canLay_of_shaped h2), h1, h2, h3, h4, hb, q.val ex (.bl _)⟩
      · exact q.elim
    · exact q.elim
/-! ### is None -/
def isNoneD (d : PyData) : Bool := match d with
  | .none => true
  | _ => false
def gIsN (d e : PyData) : M Sl := match e with
  | .none => retB (isNoneD d)
  | _ => .stuck
def gNotN (d e : PyData) : M Sl := match e with
  | .none => retB (!isNoneD d)
  | _ => .stuck
theorem isN_of {K : PySem.W.Frag} {B : Hp} {x : V} {d : PyData} (r : R K B x d) : decide (x = .non) = isNoneD d := by cases r <;> simp [isNoneD]
theorem od_isN : OpD X E (fun x y H Q => y = .non ∧ Q (.bl (decide (x = .non))) H) gIsN := by
  intro x y d e B H Q ex rx ry q
  unfold gIsN at q
  split at q
  · cases ry
    refine ⟨rfl, ?_⟩
    rw [isN_of rx]
    exact q.val ex (.bl _)
  · exact q.elim
theorem od_notN : OpD X E (fun x y H Q => y = .non ∧ Q (.bl (!decide (x = .non))) H) gNotN := by
  intro x y d e B H Q ex rx ry q
  unfold gNotN at q
  split at q
  · cases ry
    refine ⟨rfl, ?_⟩
    rw [isN_of rx]
    exact q.val ex (.bl _)
  · exact q.elim
/-! ### arithmetic -/
def rAddA (K : PySem.W.Frag) : R2 := fun x y H Q => rI0 (fun i j => .int (i + j)) x y H Q ∨ (∃ i j, x = .str i ∧ y = .str j ∧ i.length + j.length ≤ sizeLine ∧ Q (.str (i ++ j)) H) ∨ rCatA K x y H Q ∨ rCat x y H Q
theorem op_addA : OpR X (binaryOp .Add) (rAddA X.K) := op_add.or (op_add_str.or (op_catA.or op_cat))
def gAdd (d e : PyData) : M Sl := match d, e with
  | .int i, .int j => retI (i + j)
  | .str a, .str b => if big (a.length + b.length) = true then retS (a ++ b) else .stuck
  | .tuple a, .tuple b => if big (a.length + b.length) = true then .ok (.dat (.tuple (a ++ b))) else .stuck
  | .list a, .list b => if big (a.length + b.length) = true then .ok (.own (.list (a ++ b))) else .stuck
  | _, _ => .stuck
theorem RA.nil_iff {K : PySem.W.Frag} {B : Hp} {xs : List V} {ds : List PyData} (r : RA K B xs ds) : xs = [] ↔ ds = [] := by
  cases r <;> simp
theorem od_add : OpD X E (rAddA X.K) gAdd := by
  intro x y d e B H Q ex rx ry q
  unfold gAdd at q
  split at q
  · cases rx
    cases ry
    exact .inl ⟨_, _, rfl, rfl, q.val ex (.int _)⟩
  · cases rx
    cases ry
    split at q
    · rename_i h
      exact .inr (.inl ⟨_, _, rfl, rfl, big_ok h, q.val ex (.str _)⟩)
    · exact q.elim
  · split at q
    · rename_i h
      cases rx with
      | tup h1 r1 =>
        cases ry with
        | tup h2 r2 =>
          refine .inr (.inr (.inl ⟨_, _, _, _, rfl, rfl, ex_u ex h1, ex_u ex h2, by rw [r1.length, r2.length]; exact big_ok h, fun z => ?_, fun z z2 => ?_, fun z z2 p hp => ?_⟩))
          · have := r1.nil_iff.mp z
            subst this
            exact q.val ex (.tup h2 r2)
          · have := r2.nil_iff.mp z2
            subst this
            rw [List.append_nil] at q
            exact q.val ex (.tup h1 r1)
          · have nb := ex.back hp
            exact q.new ex hp (.tup upd_same ((r1.append r2).mono (.new nb)))
    · exact q.elim
  · split at q
    · rename_i h
      cases rx with
      | lst h1 r1 =>
        cases ry with
        | lst h2 r2 => exact .inr (.inr (.inr ⟨_, _, _, _, rfl, rfl, ex _ _ h1, ex _ _ h2, by rw [r1.length, r2.length]; exact big_ok h, fun p hp => q.own ex hp (.lst (r1.append r2))⟩))
    · exact q.elim
  · exact q.elim
def gSub (d e : PyData) : M Sl := match d, e with
  | .int i, .int j => retI (i - j)
  | _, _ => .stuck
theorem od_sub : OpD X E (rI0 fun i j => .int (i - j)) gSub := by
  intro x y d e B H Q ex rx ry q
  unfold gSub at q
  split at q
  · cases rx
    cases ry
    exact ⟨_, _, rfl, rfl, q.val ex (.int _)⟩
  · exact q.elim
/-- int * int, one of them small; text * int -/
def smallI (i : Int) : Bool := decide (i.natAbs ≤ 18446744073709551615)
theorem smallI_ok {i : Int} (h : smallI i = true) : -(2 ^ 64) < i ∧ i < 2 ^ 64 := by
  have := of_decide_eq_true h
  omega
def rMulS : R2 := fun x y H Q => ∃ z n, x = .str z ∧ y = .int n ∧ MulOk z n ∧ Q (.str (Txt.mul z n)) H
theorem op_mulS : OpR X (binaryOp .Mult) rMulS := by
  intro pins s σ H x y v u Q I rx ry h
  obtain ⟨z, n, rfl, rfl, hm, q⟩ := h
  obtain ⟨t, rfl⟩ := rx
  obtain ⟨t', rfl⟩ := ry
  exact SB.mul hm fun t2 k => ⟨.str _, H, I.tok _, ⟨_, rfl⟩, q⟩
def rMulA : R2 := fun x y H Q => rI CMul (fun i j => .int (i * j)) x y H Q ∨ rMulS x y H Q
theorem op_mulA : OpR X (binaryOp .Mult) rMulA := op_mul.or op_mulS
def gMul (d e : PyData) : M Sl := match d, e with
  | .int i, .int j => if smallI i = true ∨ smallI j = true then retI (i * j) else .stuck
  | .str z, .int n => if z.length ≤ 100 ∧ 0 ≤ n ∧ n ≤ 10000 then retS (Txt.mul z n) else .stuck
  | _, _ => .stuck
theorem od_mul : OpD X E rMulA gMul := by
  intro x y d e B H Q ex rx ry q
  unfold gMul at q
  split at q
  · split at q
    · rename_i h
      cases rx
      cases ry
      exact .inl ⟨_, _, rfl, rfl, h.elim (fun h => .inl (smallI_ok h)) (fun h => .inr (smallI_ok h)), q.val ex (.int _)⟩
    · exact q.elim
  · split at q
    · rename_i h
      cases rx
      cases ry
      exact .inr ⟨_, _, rfl, rfl, PyProof.Rows.mulOk_of 100 10000 h.1 h.2.2 (by have := h.2.1; omega) (by decide) (by decide), q.val ex (.str _)⟩
    · exact q.elim
  · exact q.elim
def gMod (d e : PyData) : M Sl := match d, e with
  | .int i, .int j => if 0 < j then retI (i % j) else .stuck
  | _, _ => .stuck
theorem od_mod : OpD X E (rI (fun _ j => 0 < j) fun i j => .int (i % j)) gMod := by
  intro x y d e B H Q ex rx ry q
  unfold gMod at q
  split at q
  · split at q
    · rename_i h
      cases rx
      cases ry
      exact ⟨_, _, rfl, rfl, h, q.val ex (.int _)⟩
    · exact q.elim
  · exact q.elim
def gDiv (d e : PyData) : M Sl := match d, e with
  | .int i, .int j => if 0 < j ∧ j < 18446744073709551616 then retI (i / j) else .stuck
  | _, _ => .stuck
theorem od_div : OpD X E (rI CDivW fun i j => .int (i / j)) gDiv := by
  intro x y d e B H Q ex rx ry q
  unfold gDiv at q
  split at q
  · split at q
    · rename_i h
      cases rx
      cases ry
      refine ⟨_, _, rfl, rfl, wide_div (b := 64) h.1 ?_ (by decide) (by decide), q.val ex (.int _)⟩
      have := h.2
      omega
    · exact q.elim
  · exact q.elim
def gPow (d e : PyData) : M Sl := match d, e with
  | .int i, .int j => if 0 ≤ j ∧ j ≤ 1000 ∧ smallI i = true then retI (i ^ j.toNat) else .stuck
  | _, _ => .stuck
theorem od_pow : OpD X E (rI CPow fun i j => .int (i ^ j.toNat)) gPow := by
  intro x y d e B H Q ex rx ry q
  unfold gPow at q
  split at q
  · split at q
    · rename_i h
      cases rx
      cases ry
      have k := smallI_ok h.2.2
      exact ⟨_, _, rfl, rfl, ⟨h.1, by have := h.2.1; omega, by omega⟩, q.val ex (.int _)⟩
    · exact q.elim
  · exact q.elim
def gNeg (d : PyData) : M Sl := match d with
  | .int i => retI (-i)
  | _ => .stuck
theorem ud_neg : UnD X E (rU fun i => .int (-i)) gNeg := by
  intro x d B H Q ex rx q
  unfold gNeg at q
  split at q
  · cases rx
    exact ⟨_, rfl, q.val ex (.int _)⟩
  · exact q.elim
end
end Dl
/-! The data layer: subscripts, slices, len, in, calls of built-in names. -/
namespace Dl
open PySem PySem.Spec PyProof.Rows L2
section
variable {X : Cx} {E : XK} {a b c e : Expr} {fa fb fc : Env → M Sl} {pos : Pos}
/-! ### subscripts -/
theorem RA.at {K : PySem.W.Frag} {B : Hp} {vs : List V} {ds : List PyData} {i : Int} {d : PyData} (r : RA K B vs ds) (h : atI ds i = some d) : ∃ v, atI vs i = some v ∧ R K B v d := by
  unfold atI at h ⊢
  rw [r.length]
  cases q : ixN ds.length i with
  | none => rw [q] at h; cases h
  | some j =>
    rw [q] at h
    exact r.get h
def gIx (d e : PyData) : M Sl := match d, e with
  | .list ds, .int i => (match atI ds i with
    | some d => .ok (.dat d)
    | none => .stuck)
  | .tuple ds, .int i => (match atI ds i with
    | some d => .ok (.dat d)
    | none => .stuck)
  | .dict [(.none, .list ds)], .int i => (match atI ds i with
    | some d => .ok (.dat d)
    | none => .stuck)
  | .str z, .int i => if big z.length = true then (match atI z.cps.toList i with
    | some c => retS ⟨#[c]⟩
    | none => .stuck) else .stuck
  | _, _ => .stuck
theorem scr_inv {K : PySem.W.Frag} {B : Hp} {x : V} {l : List PyData} (r : R K B x (.dict [(.none, .list l)])) : ∃ (a : Addr) (ns : List Int), x = .ref a ∧ SqL K B a (ns.map V.int) ∧ l = ns.map PyData.int := by
  generalize hg : PyData.dict [(PyData.none, PyData.list l)] = D at r
  cases r with
  | scr h =>
    injection hg with hg
    injection hg with hg _
    injection hg with _ hg
    injection hg with hg
    exact ⟨_, _, rfl, h, hg⟩
  | dK h r =>
    rename_i kvs vs
    cases kvs with
    | nil => cases hg
    | cons kv kvs =>
      cases vs with
      | nil => cases hg
      | cons v vs =>
        injection hg with hg
        injection hg with hg _
        injection hg with hg _
        obtain ⟨k, _⟩ := kv
        cases k <;> cases hg
  | dT h r =>
    rename_i kvs vs
    cases kvs with
    | nil => cases hg
    | cons kv kvs =>
      cases vs with
      | nil => cases hg
      | cons v vs =>
        injection hg with hg
        injection hg with hg _
        injection hg with hg _
        cases hg
  | ins h r =>
    injection hg with hg
    injection hg with hg _
    injection hg with _ hg
    cases hg
  | _ => cases hg
theorem od_ix : OpD X E (rIx X.K) gIx := by
  intro x y d e B H Q ex rx ry q
  unfold gIx at q
  split at q
  · split at q
    · rename_i dd hd
      cases ry
      cases rx with
      | lst h r =>
        obtain ⟨v, h1, h2⟩ := r.at hd
        exact .inl ⟨_, _, _, v, rfl, rfl, .of (ex _ _ h), h1, q.val ex h2⟩
    · exact q.elim
  · split at q
    · rename_i dd hd
      cases ry
      cases rx with
      | tup h r =>
        obtain ⟨v, h1, h2⟩ := r.at hd
        exact .inr (.inl ⟨_, _, _, v, rfl, rfl, ex_u ex h, h1, q.val ex h2⟩)
    · exact q.elim
  · rename_i ds i
    split at q
    · rename_i dd hd
      cases ry
      obtain ⟨a, ns, rfl, h, rfl⟩ := scr_inv rx
      have r := ra_ints (K := X.K) (H := H) ns
      obtain ⟨v, h1, h2⟩ := r.at hd
      have hi : ∃ n, dd = PyData.int n := by
        have : dd ∈ ns.map PyData.int := by
          unfold atI at hd
          cases z : ixN (ns.map PyData.int).length i with
          | none => rw [z] at hd; cases hd
          | some j =>
            rw [z] at hd
            exact List.mem_of_getElem? hd
        obtain ⟨n, _, hn⟩ := List.mem_map.mp this
        exact ⟨n, hn.symm⟩
      obtain ⟨n, rfl⟩ := hi
      cases h2
      exact .inl ⟨_, _, _, _, rfl, rfl, Same.seq ex h, h1, q.val ex (.int n)⟩
    · exact q.elim
  · split at q
    · rename_i hb
      split at q
      · rename_i cc hd
        cases ry
        cases rx
        exact .inr (.inr ⟨_, _, cc, rfl, rfl, big_ok hb, hd, q.val ex (.str _)⟩)
      · exact q.elim
    · exact q.elim
  · exact q.elim
theorem de_ix (ha : DE X E a fa) (hb : DE X E b fb) (hs : PlainIx b) : DE X E (.Subscript a b pos) (eOp gIx fa fb) := by
  obtain ⟨ta, pa, ha⟩ := ha
  obtain ⟨tb, pb, hb⟩ := hb
  exact ⟨_, pe_ix ix_seq pa pb hs, run_op od_ix ha hb⟩
/-! ### slices -/
def DO (X : Cx) (E : XK) (e : Option Expr) (f : Env → M (Option Int)) : Prop := ∃ t, PO X e t ∧ ∀ B0 H0 B H σ ρ (Q : Option Int → Hp → Prop), ER X.K B0 H0 B H σ ρ →
  ((∃ o, f ρ = .ok o ∧ ∀ B' H', Gr B H B' H' → Q o H') ∨ ∃ x, f ρ = .exc x ∧ ∀ H', Ex H H' → E (.ref (He.ga X.K x)) none H') → t σ H Q
def sNone : Env → M (Option Int) := fun _ => .ok none
def isI (d : PyData) : M Int := match d with
  | .int i => .ok i
  | _ => .stuck
def sSome (f : Env → M Sl) : Env → M (Option Int) := fun ρ => (f ρ).bind fun x => (isI x.d).bind fun i => .ok (some i)
theorem do_none : DO X E none sNone := by
  refine ⟨_, po_none, fun B0 H0 B H σ ρ Q re q => ?_⟩
  rcases q with ⟨o, h, q⟩ | ⟨x, h, _⟩
  · cases h
    exact q B H (.refl re.gr.s)
  · cases h
theorem do_some (h : DE X E e fa) : DO X E (some e) (sSome fa) := by
  obtain ⟨t, p, h⟩ := h
  refine ⟨_, po_some p, fun B0 H0 B H σ ρ Q re q => ?_⟩
  refine run_e h re ?_
  unfold sSome at q
  cases z : fa ρ with
  | stuck =>
    rw [z] at q
    rcases q with ⟨o, h, _⟩ | ⟨x, h, _⟩ <;> cases h
  | exc x =>
    rw [z] at q
    rcases q with ⟨o, h, _⟩ | ⟨y, h, q⟩
    · cases h
    · cases h
      exact .inr ⟨x, rfl, q⟩
  | ok sl =>
    refine .inl ⟨sl, rfl, fun v B' H' g r => ?_⟩
    rw [z, bind_ok] at q
    cases zd : sl.d with
    | int i =>
      rw [zd] at q r
      cases r
      rcases q with ⟨o, h, q⟩ | ⟨x, h, _⟩
      · cases h
        exact ⟨i, rfl, q B' H' g⟩
      · cases h
    | _ =>
      rw [zd] at q
      rcases q with ⟨o, h, _⟩ | ⟨x, h, _⟩ <;> cases h
def cutD (ds : List PyData) (lo hi : Option Int) : List PyData := (ds.drop (HT.sIx ds.length 0 lo)).take (HT.sIx ds.length ds.length hi - HT.sIx ds.length 0 lo)
theorem RA.cut {K : PySem.W.Frag} {B : Hp} {vs : List V} {ds : List PyData} (r : RA K B vs ds) (lo hi : Option Int) : RA K B (cutV vs lo hi) (cutD ds lo hi) := by
  unfold cutV cutD
  rw [r.length]
  exact (r.drop _).take _
def gSl (d : PyData) (lo hi : Option Int) : M Sl := match d with
  | .list ds => .ok (.own (.list (cutD ds lo hi)))
  | .tuple ds => .ok (.dat (.tuple (cutD ds lo hi)))
  | .str z => if big z.length = true then retS (cutS z lo hi) else .stuck
  | _ => .stuck
def rSlX (K : PySem.W.Frag) : V → Option Int → Option Int → Hp → VK → Prop := fun x lo hi H Q => rSlL K x lo hi H Q ∨ rSlA K x lo hi H Q ∨ rSlS x lo hi H Q
theorem sl_X : SlR X (rSlX X.K) := sl_list.or (sl_tupA.or sl_str)
theorem sld {x : V} {d : PyData} {lo hi : Option Int} {B H : Hp} {Q : VK} (ex : Ex B H) (rx : R X.K B x d) (q : EPost X.K E B H (gSl d lo hi) Q) : rSlX X.K x lo hi H Q := by
  unfold gSl at q
  split at q
  · cases rx with
    | lst h r => exact .inl ⟨_, _, rfl, .of (ex _ _ h), fun p hp => q.own ex hp (.lst (r.cut lo hi))⟩
  · cases rx with
    | tup h r =>
      refine .inr (.inl ⟨_, _, rfl, ex_u ex h, fun z => ?_, fun z p hp => ?_⟩)
      · refine q.val ex ?_
        have rc := r.cut lo hi
        unfold cutV at rc
        rw [z.1, z.2] at rc
        simp only [List.drop_zero, Nat.sub_zero, List.take_length] at rc
        exact .tup h rc
      · exact q.new ex hp (.tup upd_same ((r.cut lo hi).mono (.new (ex.back hp))))
  · split at q
    · rename_i hb
      cases rx
      exact .inr (.inr ⟨_, rfl, big_ok hb, q.val ex (.str _)⟩)
    · exact q.elim
  · exact q.elim
def eSl (f : Env → M Sl) (lo hi : Env → M (Option Int)) : Env → M Sl := fun ρ => (f ρ).bind fun x => (lo ρ).bind fun i => (hi ρ).bind fun j => gSl x.d i j
theorem de_sl {lo hi : Option Expr} {fl fh : Env → M (Option Int)} {p2 : Pos} (h : DE X E e fa) (hl : DO X E lo fl) (hh : DO X E hi fh) : DE X E (.Subscript e (.Slice lo hi none p2) pos) (eSl fa fl fh) := by
  obtain ⟨t, p, h⟩ := h
  obtain ⟨tl, pl, hl⟩ := hl
  obtain ⟨th, ph, hh⟩ := hh
  refine ⟨_, pe_slice sl_X p pl ph, fun B0 H0 B H σ ρ Q re q => ?_⟩
  refine run_e h re ?_
  rcases q.bind with ⟨x, e1, q⟩ | ⟨x, e1, q⟩
  · refine .inl ⟨x, e1, fun v B1 H1 g1 r1 => ?_⟩
    refine hl B0 H0 B1 H1 σ ρ _ (re.grow g1) ?_
    rcases (EPost.grow g1 q).bind with ⟨i, e2, q⟩ | ⟨i, e2, q⟩
    · refine .inl ⟨i, e2, fun B2 H2 g2 => ?_⟩
      refine hh B0 H0 B2 H2 σ ρ _ ((re.grow g1).grow g2) ?_
      rcases (EPost.grow g2 q).bind with ⟨j, e3, q⟩ | ⟨j, e3, q⟩
      · exact .inl ⟨j, e3, fun B3 H3 g3 => sld g3.s (r1.mono (g2.b.trans g3.b)) (EPost.grow g3 q)⟩
      · exact .inr ⟨j, e3, q⟩
    · exact .inr ⟨i, e2, q⟩
  · exact .inr ⟨x, e1, q⟩
/-! ### len -/
def gLen (ds : List PyData) : M Sl := match ds with
  | [.list l] => retI l.length
  | [.tuple l] => retI l.length
  | [.str z] => if big z.length = true then retI z.length else .stuck
  | [.dict [(.none, .list l)]] => retI l.length
  | _ => .stuck
def rLenA (K : PySem.W.Frag) : List V → Hp → VK → Prop := fun xs H Q => (∃ p ys, xs = [.ref p] ∧ (SqL K H p ys ∨ SqT K H p ys) ∧ Q (.int ys.length) H) ∨ ∃ z, xs = [.str z] ∧ z.length ≤ sizeLine ∧ Q (.int z.length) H
theorem call_lenA : CallR X (.builtin "len") (rLenA X.K) := call_len_seq.or call_len_str
theorem cd_len : CallD X E (rLenA X.K) gLen := by
  intro xs ds B H Q ex ra q
  unfold gLen at q
  split at q
  · cases ra with
    | cons r t =>
      cases t
      cases r with
      | lst h r => exact .inl ⟨_, _, rfl, .inl (.of (ex _ _ h)), by rw [r.length]; exact q.val ex (.int _)⟩
  · cases ra with
    | cons r t =>
      cases t
      cases r with
      | tup h r => exact .inl ⟨_, _, rfl, .inr (ex_u ex h), by rw [r.length]; exact q.val ex (.int _)⟩
  · split at q
    · rename_i hb
      cases ra with
      | cons r t =>
        cases t
        cases r
        exact .inr ⟨_, rfl, big_ok hb, q.val ex (.int _)⟩
    · exact q.elim
  · cases ra with
    | cons r t =>
      cases t
      obtain ⟨a, ns, rfl, h, rfl⟩ := scr_inv r
      refine .inl ⟨_, _, rfl, .inl (Same.seq ex h), ?_⟩
      rw [List.length_map] at q ⊢
      exact q.val ex (.int _)
  · exact q.elim
/-! ### tuple(..), list(..), all, any, min, max -/
def gTuple (ds : List PyData) : M Sl := match ds with
  | [.list l] => .ok (.dat (.tuple l))
  | [.tuple l] => .ok (.dat (.tuple l))
  | _ => .stuck
theorem cd_tuple : CallD X E (fun xs H Q => ∃ p ys, xs = [.ref p] ∧ ((SqL X.K H p ys ∧ ∀ l, H l = none → Q (.ref l) (upd H l (.tup ys))) ∨ (SqT X.K H p ys ∧ Q (.ref p) H))) gTuple := by
  intro xs ds B H Q ex ra q
  unfold gTuple at q
  split at q
  · cases ra with
    | cons r t =>
      cases t
      cases r with
      | lst h r => exact ⟨_, _, rfl, .inl ⟨.of (ex _ _ h), fun p hp => q.new ex hp (.tup upd_same (r.mono (.new (ex.back hp))))⟩⟩
  · cases ra with
    | cons r t =>
      cases t
      cases r with
      | tup h r => exact ⟨_, _, rfl, .inr ⟨ex_u ex h, q.val ex (.tup h r)⟩⟩
  · exact q.elim
def gList (ds : List PyData) : M Sl := match ds with
  | [.list l] => .ok (.own (.list l))
  | [.tuple l] => .ok (.own (.list l))
  | _ => .stuck
theorem cd_list : CallD X E (fun xs H Q => ∃ p ys, xs = [.ref p] ∧ (SqL X.K H p ys ∨ SqT X.K H p ys) ∧ ∀ l, H l = none → Q (.ref l) (upd H l (.lst ys))) gList := by
  intro xs ds B H Q ex ra q
  unfold gList at q
  split at q
  · cases ra with
    | cons r t =>
      cases t
      cases r with
      | lst h r => exact ⟨_, _, rfl, .inl (.of (ex _ _ h)), fun p hp => q.own ex hp (.lst r)⟩
  · cases ra with
    | cons r t =>
      cases t
      cases r with
      | tup h r => exact ⟨_, _, rfl, .inr (ex_u ex h), fun p hp => q.own ex hp (.lst r)⟩
  · exact q.elim
def boolsOf : List PyData → Option (List Bool)
  | [] => some []
  | .bool b :: ds => (boolsOf ds).map (b :: ·)
  | _ :: _ => none
theorem boolsOf_map : ∀ {ds : List PyData} {bs : List Bool}, boolsOf ds = some bs → ds = bs.map PyData.bool
  | [], bs, h => by cases h; rfl
  | d :: ds, bs, h => by
    cases d <;> simp only [boolsOf] at h <;> try cases h
    cases q : boolsOf ds with
    | none => rw [q] at h; cases h
    | some l =>
      rw [q] at h
      cases h
      rw [boolsOf_map q]
      rfl
def gAllAny (k : List Bool → Bool) (ds : List PyData) : M Sl := match ds with
  | [.list l] => (match boolsOf l with
    | some bs => retB (k bs)
    | none => .stuck)
  | _ => .stuck
theorem cd_all : CallD X E (rAll X.K) (gAllAny fun bs => bs.all id) := by
  intro xs ds B H Q ex ra q
  unfold gAllAny at q
  split at q
  · split at q
    · rename_i bs hb
      cases ra with
      | cons r t =>
        cases t
        cases r with
        | lst h r =>
          rw [boolsOf_map hb] at r
          exact ⟨_, bs, rfl, by rw [← r.bools]; exact .of (ex _ _ h), q.val ex (.bl _)⟩
    · exact q.elim
  · exact q.elim
def gMin2 (ds : List PyData) : M Sl := match ds with
  | [.int i, .int j] => retI (if j < i then j else i)
  | _ => .stuck
def gMax2 (ds : List PyData) : M Sl := match ds with
  | [.int i, .int j] => retI (if j > i then j else i)
  | _ => .stuck
/-! ### list(range(n)) -/
def eLstRg1 (fa : Env → M Sl) : Env → M Sl := fun ρ => (fa ρ).bind fun x => (isI x.d).bind fun n => if 0 ≤ n ∧ n ≤ 10000 then .ok (.own (.list (rng 0 n.toNat))) else .stuck
theorem rgV_ra {K : PySem.W.Frag} {B : Hp} (n : Int) : RA K B (rgV 0 n) (rng 0 n.toNat) := by
  unfold rgV rng
  rw [Int.sub_zero]
  have : ∀ l : List Nat, RA K B (l.map fun i : Nat => V.int (0 + (i : Int))) (l.map fun (i : Nat) => PyData.int (0 + (i : Int))) := by
    intro l
    induction l with
    | nil => exact .nil
    | cons x l ih => exact .cons (.int _) ih
  exact this _
theorem de_listRg1 {p p2 pos2 : Pos} (hc : X.calm = true) (hg : Gl X "list") (hm : X.mg "list" = none) (hg2 : Gl X "range") (hm2 : X.mg "range" = none) (h : DE X E a fa) (na : starEach [Expr.Call (.Name "range" p2) [a] [] pos2] X.env = (false, eval (Expr.Call (.Name "range" p2) [a] [] pos2) X.env) :: starEach [] X.env := by rfl)
    (na2 : starEach [a] X.env = (false, eval a X.env) :: starEach [] X.env := by rfl) : DE X E (.Call (.Name "list" p) [.Call (.Name "range" p2) [a] [] pos2] [] pos) (eLstRg1 fa) := by
  obtain ⟨t, pt, h⟩ := h
  refine ⟨_, pe_listRg hc hg hm (prg_1 hg2 hm2 pt na2) na, fun B0 H0 B H σ ρ Q re q => ?_⟩
  refine run_e h re ?_
  rcases q.bind with ⟨x, e1, q⟩ | ⟨x, e1, q⟩
  · refine .inl ⟨x, e1, fun v B1 H1 g1 r1 => ?_⟩
    have q := EPost.grow g1 q
    rcases q.bind with ⟨n, e2, q⟩ | ⟨n, e2, _⟩
    · cases z : x.d <;> rw [z] at e2 r1 <;> try cases e2
      cases r1
      split at q
      · rename_i hn
        exact ⟨_, rfl, RgOk.of_le (by omega) (by omega) (by omega) (by omega), fun p hp => q.own g1.s hp (.lst (rgV_ra _))⟩
      · exact q.elim
    · cases z : x.d <;> rw [z] at e2 <;> cases e2
  · exact .inr ⟨x, e1, q⟩
/-! ### in -/
def flatD (d : PyData) : Bool := match d with
  | .none => true
  | .bool _ => true
  | .int _ => true
  | .str _ => true
  | _ => false
def gInB (d e : PyData) : M Bool := match e with
  | .list ds => if flatD d = true ∧ ds.all flatD = true then .ok (ds.any fun z => PyData.eqv z d) else if SeqAt.shaped d = true ∧ SeqAt.shaped (.list ds) = true then .ok (ds.any fun z => PyData.eqv z d) else .stuck
  | .tuple ds => if flatD d = true ∧ ds.all flatD = true then .ok (ds.any fun z => PyData.eqv z d) else .stuck
  | .str z => (match d with
    | .str ⟨⟨[c]⟩⟩ => .ok (decide (c ∈ z.cps.toList))
    | _ => .stuck)
  | _ => .stuck
def gIn (d e : PyData) : M Sl := (gInB d e).bind fun b => retB b
theorem flat_V {K : PySem.W.Frag} {B : Hp} {x : V} {d : PyData} (r : R K B x d) (h : flatD d = true) : flatV x = true := by cases r <;> first | rfl | cases h
theorem eqV_D {K : PySem.W.Frag} {B : Hp} {x y : V} {d e : PyData} (r : R K B x d) (q : R K B y e) (h : flatD d = true) (h2 : flatD e = true) : eqV x y = PyData.eqv d e := by
  cases r <;> first
    | cases h; done
    | (cases q <;> first
      | cases h2; done
      | rfl)
theorem flat_all {K : PySem.W.Frag} {B : Hp} : ∀ {xs : List V} {ds : List PyData}, RA K B xs ds → ds.all flatD = true → xs.all flatV = true
  | _, _, .nil, _ => rfl
  | _, _, .cons r t, h => by
    rw [List.all_cons, Bool.and_eq_true] at h ⊢
    exact ⟨flat_V r h.1, flat_all t h.2⟩
theorem inV_D {K : PySem.W.Frag} {B : Hp} {x : V} {d : PyData} (r : R K B x d) (h : flatD d = true) : ∀ {xs : List V} {ds : List PyData}, RA K B xs ds → ds.all flatD = true → inV x xs = ds.any fun z => PyData.eqv z d
  | _, _, .nil, _ => rfl
  | _, _, .cons rz t, h2 => by
    rw [List.all_cons, Bool.and_eq_true] at h2
    have e1 := eqV_D rz r h2.1 h
    have e2 := inV_D r h t h2.2
    unfold inV at e2 ⊢
    rw [List.any_cons, List.any_cons, e2]
    exact congrArg (fun b => b || _) e1
def rInA (K : PySem.W.Frag) (neg : Bool) : R2 := fun x y H Q => rIn K neg x y H Q ∨ (∃ d ds, Dp K H x d ∧ Dp K H y (.list ds) ∧ SeqAt.shaped d = true ∧ SeqAt.shaped (.list ds) = true ∧ Q (.bl (if neg then !(ds.any fun z => PyData.eqv z d) else ds.any fun z => PyData.eqv z d)) H) ∨
  ∃ (c : Nat) (z : Str), x = .str ⟨#[c]⟩ ∧ y = .str z ∧ Q (.bl (if neg then !decide (c ∈ z.cps.toList) else decide (c ∈ z.cps.toList))) H
theorem op_inA (hu : X.A.units + 65 < cLine) : OpR X (compareOp .In) (rInA X.K false) := op_in_seq.or ((op_inD hu).or op_in_sign)
theorem in_cases {neg : Bool} {x y : V} {d e : PyData} {B H : Hp} {Q : VK} {b : Bool} (ex : Ex B H) (rx : R X.K B x d) (ry : R X.K B y e) (h : gInB d e = .ok b) (q : Q (.bl (if neg then !b else b)) H) : rInA X.K neg x y H Q := by
  unfold gInB at h
  split at h
  · split at h
    · rename_i hf
      cases h
      cases ry with
      | lst h r => exact .inl ⟨_, _, rfl, .inl (.of (ex _ _ h)), flat_V rx hf.1, flat_all r hf.2, by rw [inV_D rx hf.1 r hf.2]; exact q⟩
    · split at h
      · rename_i hs
        cases h
        exact .inr (.inl ⟨_, _, (rx.mono ex).dp (SeqAt.canLay_of_shaped hs.1), (ry.mono ex).dp (SeqAt.canLay_of_shaped hs.2), hs.1, hs.2, q⟩)
      · cases h
  · split at h
    · rename_i hf
      cases h
      cases ry with
      | tup h r => exact .inl ⟨_, _, rfl, .inr (ex_u ex h), flat_V rx hf.1, flat_all r hf.2, by rw [inV_D rx hf.1 r hf.2]; exact q⟩
    · cases h
  · split at h
    · cases h
      cases rx
      cases ry
      exact .inr (.inr ⟨_, _, rfl, rfl, q⟩)
    · cases h
  · cases h
theorem gInB_ne {d e : PyData} {x : Str} : gInB d e ≠ .exc x := by
  unfold gInB
  split
  · split
    · intro h; cases h
    · split <;> (intro h; cases h)
  · split <;> (intro h; cases h)
  · split <;> (intro h; cases h)
  · intro h; cases h
theorem od_in : OpD X E (rInA X.K false) gIn := by
  intro x y d e B H Q ex rx ry q
  unfold gIn at q
  cases hb : gInB d e with
  | stuck => rw [hb] at q; exact q.elim
  | exc x => exact (gInB_ne hb).elim
  | ok b =>
    rw [hb] at q
    exact in_cases ex rx ry hb (q.val ex (.bl _))
/-! ### isinstance(e, T), T a built-in class -/
def tyName (d : PyData) : String := match d with
  | .none => "NoneType"
  | .bool _ => "bool"
  | .int _ => "int"
  | .str _ => "str"
  | .list _ => "list"
  | .tuple _ => "tuple"
  | .dict _ => "dict"
def gIsi (T : String) (d : PyData) : M Sl := match d with
  | .dict ((.none, _) :: _) => .stuck
  | .dict ((.bool false, _) :: _) => .stuck
  | d => (match kitB (tyName d) T with
    | some b => retB b
    | none => .stuck)
theorem ty_of {K : PySem.W.Frag} {B : Hp} {x : V} {d : PyData} (r : R K B x d) (h : ∀ z l, d ≠ .dict ((.none, z) :: l)) (h2 : ∀ z l, d ≠ .dict ((.bool false, z) :: l)) : TyX K B x (.type (tyName d)) := by
  cases r with
  | non => exact .base .non
  | bl b => exact .base (.bl b)
  | int i => exact .base (.int i)
  | str z => exact .base (.str z)
  | lst hh _ => exact .base (.lst hh)
  | tup hh _ =>
    exact .base (.tup hh)
  | tupF _ _ => exact (h2 _ _ rfl).elim
  | dK hh _ => exact .base (.dK hh)
  | dT hh _ => exact .base (.dT hh)
  | ins _ _ => exact (h _ _ rfl).elim
  | scr _ => exact (h _ _ rfl).elim
def eIsi (T : String) (fa : Env → M Sl) : Env → M Sl := fun ρ => (fa ρ).bind fun x => gIsi T x.d
theorem de_isi {p p2 : Pos} {n : Str} {T : String} (hg : Gl X "isinstance") (hm : X.mg "isinstance" = none) (hgT : Gl X n) (hmT : X.mg n = none) (hv : bootBuiltins n = some (.type T)) (h : DE X E a fa) (hn : n ≠ "__name__" := by decide) (hd : (n == ("__debug__" : Str)) = false := by decide)
    (he : starEach [a, .Name n p2] X.env = (false, eval a X.env) :: starEach [Expr.Name n p2] X.env := by rfl) (he2 : starEach [Expr.Name n p2] X.env = (false, eval (Expr.Name n p2) X.env) :: starEach [] X.env := by rfl) (hpl : (backTo pos (starEach [Expr.Name n p2] X.env)).any (·.1) = false := by rfl) :
    DE X E (.Call (.Name "isinstance" p) [a, .Name n p2] [] pos) (eIsi T fa) := by
  obtain ⟨t, pt, h⟩ := h
  refine ⟨_, pe_callB call_isi hg hm (by decide +kernel) (pa_cons pt (pa_cons (pe_bltn (v := .ty T) hgT hmT hv rfl hn hd) pa_nil he2) he) (by decide) (by decide) he hpl, fun B0 H0 B H σ ρ Q re q => ?_⟩
  refine run_e h re ?_
  rcases q.bind with ⟨x, e1, q⟩ | ⟨x, e1, q⟩
  · refine .inl ⟨x, e1, fun v B1 H1 g1 r1 => ?_⟩
    have q := EPost.grow g1 q
    unfold gIsi at q
    split at q
    · exact q.elim
    · exact q.elim
    · rename_i d hne hne2
      split at q
      · rename_i b hk
        exact ⟨v, .ty T, .type (tyName x.d), .type T, b, rfl, .ty T, ty_of (r1.mono g1.s) (fun z l hz => hne z l hz) (fun z l hz => hne2 z l hz), kit_ty hk, q.val g1.s (.bl b)⟩
      · exact q.elim
  · exact .inr ⟨x, e1, q⟩
/-! ### a < b < c -/
def eChain (g g' : PyData → PyData → M Sl) (fa fb fc : Env → M Sl) : Env → M Sl := fun ρ => (fa ρ).bind fun x => (fb ρ).bind fun y => ((g x.d y.d).bind fun z => isB z.d).bind fun k => if k = true then (fc ρ).bind fun w => g' y.d w.d else .ok (.dat (.bool false))
end
end Dl
/-! The data layer: x[i] = e, methods whose arguments change the same list, the law's def. -/
namespace Dl
open PySem PySem.Spec PyProof.Rows L2
section
variable {X : Cx} {E : XK} {a b c e : Expr} {es : List Expr} {fa fb fc : Env → M Sl} {pos : Pos}
/-! ### x[i] = e -/
def setI (l : List PyData) (i d : PyData) : Option (List PyData) := match i with
  | .int k => (match ixN l.length k with
    | some j => some (l.set j d)
    | none => none)
  | _ => none
def oSetIx (i : Nat) (fe fi : Env → M Sl) : Env → O := fun ρ => oOf (fe ρ) fun x => match ρ[i]? with
  | some (some (.own (.list l))) => oOf (fi ρ) fun y => (match setI l y.d x.d with
    | some l' => .nx (ρ.set i (some (.own (.list l'))))
    | none => .stuck)
  | _ => .stuck
theorem ds_setIx {i : Nat} {tpos : Pos} (h : DE X E e fa) (ho : PE X a (tVar i)) (hi : DE X E b fb) (hs : swapsWithSole [Expr.Subscript a b tpos] e pos.line X.env = pure false := by rfl) (hw : swappedStores [Expr.Subscript a b tpos] e X.env = pure none := by rfl)
    (h1 : (assignEach [Expr.Subscript a b tpos] X.env).map (·.2) = [assign (Expr.Subscript a b tpos) X.env] := by rfl)
    (hg : ∀ v, assign (.Subscript a b tpos) X.env v = (do
      let ov ← holding [v] (eval a X.env)
      let iv ← holding [v, ov] (eval b X.env)
      standAt tpos
      holding [v, ov, iv] (setItem ov iv v)
      release [v, ov, iv] []) := by intro _; rfl) : DS X E (.Assign [.Subscript a b tpos] e pos) (oSetIx i fa fb) := by
  obtain ⟨t, p, h⟩ := h
  obtain ⟨ti, pi, hi⟩ := hi
  refine ⟨_, ps_asg p (pg_sub ho pi set_list hg) hs hw h1, fun B0 H0 B H σ ρ D re q => ?_⟩
  refine h B0 H0 B H σ ρ _ re (epost_of re q fun sl _ q v B1 H1 g1 r => ?_)
  obtain ⟨B2, g2, r2⟩ := r.fix g1
  split at q
  · rename_i l hl
    obtain ⟨p1, o, k1, k2, k3, k4, k5⟩ := re.own i _ hl
    cases k5 with
    | lst rl =>
      rename_i vs
      refine ⟨_, k1, ?_⟩
      refine hi B0 H0 B2 H1 σ ρ _ (re.grow g2) (epost_of (re.grow g2) (SPost.grow g2.b q) fun sl2 _ q v2 B3 H3 g3 r3 => ?_)
      obtain ⟨B4, g4, r4⟩ := r3.fix g3
      unfold setI at q
      split at q
      · rename_i l' hset
        split at hset
        · rename_i k hk
          split at hset
          · rename_i j hj
            cases hset
            rw [hk] at r4
            cases r4
            have g24 := g2.trans g4
            refine ⟨p1, vs, k, j, rfl, rfl, g24.h p1 _ k4, by rw [rl.length]; exact hj, ?_⟩
            have nb : B4 p1 = none := g24.lm k4 k3 (fun _ h => nomatch h)
            exact q B4 _ σ g4.b ((re.grow g24).own_put hl k1 (g24.h p1 _ k4) nb k2 (.lst ((rl.mono g24.b).set j (r2.mono g4.b))))
          · cases hset
        · cases hset
      · exact q.elim
  · exact q.elim
/-! ### a method whose arguments may change the same list -/
def mMutM (i : Nat) (g : List PyData → List PyData → Option (List PyData × PyData)) (f : Env → M (List PyData × Env)) : Env → M (PyData × Env) := fun ρ => match ρ[i]? with
  | some (some (.own (.list _))) => (f ρ).bind fun x => (match x.2[i]? with
    | some (some (.own (.list l))) => (match g l x.1 with
      | some (l', d) => .ok (d, x.2.set i (some (.own (.list l'))))
      | none => .stuck)
    | _ => .stuck)
  | _ => .stuck
theorem dm_mutM {i : Nat} {name : Str} {r : V → List V → Hp → VK → Prop} {g : List PyData → List PyData → Option (List PyData × PyData)} {o : Expr} {fs : Env → M (List PyData × Env)} {apos cpos : Pos} (hg : MutU X r g) (ha : DAM X E (e :: es) fs)
    (hpe : ∀ t, PA X (e :: es) t → PE X (.Call (.Attribute o name apos) (e :: es) [] cpos) (tBM X.K "list" r (tVar i) t)) : DM X E (.Call (.Attribute o name apos) (e :: es) [] cpos) (mMutM i g fs) := by
  obtain ⟨t, p, h⟩ := ha
  refine ⟨_, hpe t p, fun B0 H0 B H σ ρ Q re q => ?_⟩
  unfold mMutM at q
  split at q
  · rename_i l0 hi
    obtain ⟨p1, o1, h1, h2, h3, h4, h5⟩ := re.own i _ hi
    cases h5 with
    | lst rl =>
      rename_i vs
      refine ⟨_, h1, .inl ⟨rfl, vs, SqL.of h4⟩, h B0 H0 B H σ ρ _ re ?_⟩
      cases z : fs ρ with
      | stuck => rw [z] at q; exact q.elim
      | exc x => rw [z] at q; exact q
      | ok y =>
        obtain ⟨ds, ρ1⟩ := y
        rw [z, bind_ok] at q
        intro xs B1 H1 e1 r1 ra
        simp only at q
        split at q
        · rename_i l hl
          split at q
          · rename_i l' d hgd
            obtain ⟨p2, o2, k1, k2, k3, k4, k5⟩ := r1.own i _ hl
            rw [h1] at k1
            cases k1
            cases k5 with
            | lst rl2 =>
              rename_i vs2
              refine hg p1 vs2 l xs ds l' d B1 H1 Q k4 r1.gr.s rl2 ra hgd fun vs' y rv ry => ?_
              exact q y B1 _ e1 (r1.own_put hl h1 k4 k3 k2 (.lst rv)) ry
          · exact q.elim
        · exact q.elim
  · exact q.elim
theorem dam_one {m : Env → M (PyData × Env)} (h : DM X E e m) (hs : starEach [e] X.env = (false, eval e X.env) :: starEach [] X.env := by rfl) : DAM X E [e] (amCons m aNil) := dam_cons h da_nil hs
theorem amCons_len {m : Env → M (PyData × Env)} {g : Env → M (List PyData)} {n : Nat} (h : ∀ ρ ds, g ρ = .ok ds → ds.length = n) : ∀ ρ ds ρ', amCons m g ρ = .ok (ds, ρ') → ds.length = n + 1 := by
  intro ρ ds ρ' e
  unfold amCons at e
  cases q : m ρ with
  | stuck => rw [q] at e; cases e
  | exc x => rw [q] at e; cases e
  | ok a =>
    rw [q, bind_ok] at e
    cases q2 : g a.2 with
    | stuck => rw [q2] at e; cases e
    | exc x => rw [q2] at e; cases e
    | ok l =>
      rw [q2, bind_ok] at e
      cases e
      rw [List.length_cons, h a.2 l q2]
end
/-! ### the law's own def: nothing leaves it -/
theorem law_mk {P : Program} {w : World} {K : PySem.W.Frag} {mg : Str → Option Value} {base : Heap} {x qual : Str} {st : Stmt} {N ps : List Str} {k : Nat} {o : Env → O} {f : Addr} {fd : FuncData} (F : FunD K x qual (defArgs st) (defBody st) (defScope st) [] [] f fd) (S : FnScope N ps (defScope st))
    (h : ∀ (cdv : Value) (A : Around) (outer : List PySem.Env) (s : Shared) (H : Hp) (E : XK), Room k (A.deeper (envOfC qual (defScope st) s.heap.objs.size f cdv)) →
      DSs (cxOf CX0 P w K mg base N qual (defScope st) f cdv A outer s H E).nox E0 (defBody st) o) : FnOk P w K mg base CX0 (k + 1) f fd ps (fun vs H Q _ => spD K ps.length (fnO ps.length N.length o) vs H Q E0) := by
  refine F.ok S (fun vs H Q E h => h.1) fun cdv A outer s H vs Q E hr hs => ?_
  obtain ⟨t, p, q⟩ := body_ok (h cdv A outer s H E hr) hs
  exact ⟨t, p.nox, q⟩
end Dl
/-! The data layer: constants of the module, dicts with tuples for keys. -/
namespace Dl
open PySem PySem.Spec PyProof.Rows L2
section
variable {X : Cx} {E : XK} {a b c e : Expr} {es : List Expr} {fa fb fc : Env → M Sl} {pos : Pos}
/-! ### tuples of the module's top -/
abbrev fz (ds : List PyData) : PyData := .dict [(.bool false, .tuple ds)]
theorem fz_inv {K : PySem.W.Frag} {H : Hp} {v : V} {ds : List PyData} (r : R K H v (fz ds)) : ∃ a xs, v = .ref a ∧ (∀ G : Hp, SqT K G a xs) ∧ RA K H xs ds := by
  generalize hd : fz ds = d at r
  cases r with
  | tupF h r =>
    injection hd with hd
    injection hd with hd _
    injection hd with _ hd
    injection hd with hd
    subst hd
    exact ⟨_, _, rfl, h, r⟩
  | dK h r =>
    rename_i kvs vs
    injection hd with hd
    cases kvs with
    | nil => cases hd
    | cons kv kvs =>
      cases vs with
      | nil => cases hd
      | cons v vs =>
        injection hd with hd _
        injection hd with hd _
        obtain ⟨k, _⟩ := kv
        cases k <;> cases hd
  | dT h r =>
    injection hd with hd
    injection hd with hd _
    injection hd with hd _
    cases hd
  | ins h r =>
    injection hd with hd
    injection hd with hd _
    injection hd with hd _
    cases hd
  | scr h =>
    injection hd with hd
    injection hd with hd _
    injection hd with hd _
    cases hd
  | _ => cases hd
/-- the value u of the top is the data d -/
def frAll (f : Value → PyData → Bool) : List Value → List PyData → Bool
  | [], [] => true
  | u :: us, d :: ds => f u d && frAll f us ds
  | _, _ => false
def frFlat (u : Value) (d : PyData) : Bool := match u, d with
  | .int j _, .int i => decide (j = i)
  | .str y _, .str x => decide (y = x)
  | _, _ => false
def frTup (K : PySem.W.Frag) (f : Value → PyData → Bool) (a : Addr) (ds : List PyData) : Bool := match K.lookup a with
  | some ⟨.type c, _, .seq its _, _⟩ => decide (c = "tuple") && (decide (its.size ≤ sizeLine) && frAll f its.toList ds)
  | _ => false
def frStep (K : PySem.W.Frag) (f : Value → PyData → Bool) (u : Value) (d : PyData) : Bool := match u, d with
  | .ref a, .dict [(.bool false, .tuple ds)] => frTup K f a ds
  | u, d => frFlat u d
def frB (K : PySem.W.Frag) : Nat → Value → PyData → Bool
  | 0 => frFlat
  | n + 1 => frStep K (frB K n)
theorem frAll_ok {K : PySem.W.Frag} {f : Value → PyData → Bool} (hf : ∀ u d, f u d = true → ∃ v, RelV v u ∧ ∀ H, R K H v d) : ∀ (us : List Value) (ds : List PyData), frAll f us ds = true → ∃ vs, Vals vs us ∧ ∀ H, RA K H vs ds
  | [], [], _ => ⟨[], .nil, fun _ => .nil⟩
  | [], _ :: _, h => nomatch h
  | _ :: _, [], h => nomatch h
  | u :: us, d :: ds, h => by
    obtain ⟨h1, h2⟩ := Bool.and_eq_true_iff.mp (show (f u d && frAll f us ds) = true from h)
    obtain ⟨v, r, q⟩ := hf u d h1
    obtain ⟨vs, rs, qs⟩ := frAll_ok hf us ds h2
    exact ⟨v :: vs, .cons r rs, fun H => .cons (q H) (qs H)⟩
theorem frFlat_ok {K : PySem.W.Frag} {u : Value} {d : PyData} (h : frFlat u d = true) : ∃ v, RelV v u ∧ ∀ H, R K H v d := by
  unfold frFlat at h
  split at h
  · cases of_decide_eq_true h
    exact ⟨.int _, ⟨_, rfl⟩, fun H => .int _⟩
  · cases of_decide_eq_true h
    exact ⟨.str _, ⟨_, rfl⟩, fun H => .str _⟩
  · cases h
theorem frTup_ok {K : PySem.W.Frag} {f : Value → PyData → Bool} (hf : ∀ u d, f u d = true → ∃ v, RelV v u ∧ ∀ H, R K H v d) {a : Addr} {ds : List PyData} (h : frTup K f a ds = true) : ∀ H, R K H (.ref a) (fz ds) := by
  unfold frTup at h
  split at h
  · rename_i c dd its n1 sl hk
    obtain ⟨h1, h2⟩ := Bool.and_eq_true_iff.mp h
    obtain ⟨h3, h4⟩ := Bool.and_eq_true_iff.mp h2
    obtain ⟨vs, rs, qs⟩ := frAll_ok hf _ _ h4
    exact fun H => .tupF (fun G => .inr ⟨_, _, _, hk, congrArg Value.type (of_decide_eq_true h1), rfl, of_decide_eq_true h3, rs⟩) (qs H)
  · cases h
theorem frB_ok {K : PySem.W.Frag} : ∀ (n : Nat) (u : Value) (d : PyData), frB K n u d = true → ∃ v, RelV v u ∧ ∀ H, R K H v d
  | 0, u, d, h => frFlat_ok h
  | n + 1, u, d, h => by
    have h : frStep K (frB K n) u d = true := h
    unfold frStep at h
    split at h
    · exact ⟨.ref _, rfl, frTup_ok (frB_ok n) h⟩
    · exact frFlat_ok h
/-- the module's name x is the data d -/
def conB (K : PySem.W.Frag) (x : Str) (d : PyData) : Bool := match PySem.W.nsIn K mainGlobals x with
  | some (some u) => frB K 6 u d
  | _ => false
def IsCon (K : PySem.W.Frag) (mg : Str → Option Value) (x : Str) (d : PyData) : Prop := ∃ u v, mg x = some u ∧ RelV v u ∧ ∀ H, R K H v d
theorem con_ok {K : PySem.W.Frag} {h : Heap} {mg : Str → Option Value} (k : K.In h) (G : h.Ns mainGlobals mg) {x : Str} {d : PyData} (c : conB K x d = true) : IsCon K mg x d := by
  unfold conB at c
  split at c
  · rename_i u hu
    obtain ⟨v, r, q⟩ := frB_ok 6 u d c
    exact ⟨u, v, PySem.W.mg_of k G hu, r, q⟩
  · cases c
/-- a loop over a tuple of the module's top -/
theorem di_con {x : Str} {ds : List PyData} {tg : Expr} (hg : Gl X x) (hm : IsCon X.K X.mg x (fz ds)) (hd : (x == ("__debug__" : Str)) = false := by decide) : DI X E tg (.Name x pos) (fun _ => .ok ds) := by
  obtain ⟨u, v, h1, r, q⟩ := hm
  refine ⟨_, pi_any (pe_glob hg h1 r hd), fun B0 H0 B H σ ρ Q re k => ?_⟩
  obtain ⟨a, xs, rfl, h2, ra⟩ := fz_inv (q B)
  exact .inl ⟨_, rfl, .inr ⟨_, h2 _, k _ B H (.refl re.gr.s) (wlk_at walk_tup ra fun B2 H2 _ _ => h2 _)⟩⟩
/-! ### dicts with tuples for keys -/
def keyV (d : PyData) : Option Key := match d with
  | .int i => some (.inl i)
  | .str x => some (.inr x)
  | _ => none
def keysA : List PyData → Option (List Key)
  | [] => some []
  | d :: ds => (keyV d).bind fun k => (keysA ds).bind fun ks => some (k :: ks)
def keysOf (d : PyData) : Option (List Key) := match d with
  | .tuple ds => keysA ds
  | _ => none
def keysOfF (d : PyData) : Option (List Key) := match d with
  | .dict [(.bool false, .tuple ds)] => keysA ds
  | d => keysOf d
theorem keyV_ok {K : PySem.W.Frag} {H : Hp} {v : V} {d : PyData} {k : Key} (r : R K H v d) (h : keyV d = some k) : v = kV k := by
  unfold keyV at h
  split at h
  · cases h
    cases r
    rfl
  · cases h
    cases r
    rfl
  · cases h
theorem keysA_ok {K : PySem.W.Frag} {H : Hp} : ∀ {vs : List V} {ds : List PyData} {ks : List Key}, RA K H vs ds → keysA ds = some ks → vs = ks.map kV
  | _, _, _, .nil, h => by cases h; rfl
  | _, _, _, .cons r q, h => by
    unfold keysA at h
    obtain ⟨k, h1, h⟩ := Option.bind_eq_some_iff.mp h
    obtain ⟨ks, h2, h⟩ := Option.bind_eq_some_iff.mp h
    cases h
    rw [keyV_ok r h1, keysA_ok q h2]
    rfl
theorem keysA_keyD : ∀ ks : List Key, keysA (ks.map keyD) = some ks
  | [] => rfl
  | k :: ks => by
    have e : keyV (keyD k) = some k := by cases k <;> rfl
    simp only [List.map_cons, keysA, e, keysA_keyD ks, Option.bind_some]
theorem keysOf_ok {K : PySem.W.Frag} {H : Hp} {v : V} {d : PyData} {ks : List Key} (r : R K H v d) (h : keysOf d = some ks) : ∃ a, v = .ref a ∧ H a = some (.tup (ks.map kV)) := by
  unfold keysOf at h
  split at h
  · cases r with
    | tup h1 ra => exact ⟨_, rfl, by rw [← keysA_ok ra h]; exact h1⟩
  · cases h
theorem keysOfF_ok {K : PySem.W.Frag} {H : Hp} {v : V} {d : PyData} {ks : List Key} (r : R K H v d) (h : keysOfF d = some ks) : ∃ a, v = .ref a ∧ SqT K H a (ks.map kV) := by
  unfold keysOfF at h
  split at h
  · obtain ⟨a, xs, h1, h2, ra⟩ := fz_inv r
    exact ⟨a, h1, by rw [← keysA_ok ra h]; exact h2 _⟩
  · obtain ⟨a, h1, h2⟩ := keysOf_ok r h
    exact ⟨a, h1, .of h2⟩
/-- the pairs of such a dict -/
def isK (ks : List Key) (p : PyData × PyData) : Bool := decide (keysOf p.1 = some ks)
def getE (es : List (PyData × PyData)) (ks : List Key) : Option PyData := (es.find? (isK ks)).map (·.2)
def putE (es : List (PyData × PyData)) (ks : List Key) (d : PyData) : List (PyData × PyData) := if es.any (isK ks) = true then es.map (fun p => if isK ks p = true then (p.1, d) else p) else es ++ [(.tuple (ks.map keyD), d)]
def entsT (kvs : List (List Key × V)) (vs : List PyData) : List (PyData × PyData) := (kvs.map fun p => PyData.tuple (p.1.map keyD)).zip vs
theorem isK_ent (k : List Key) (ks : List Key) (d : PyData) : isK ks (.tuple (k.map keyD), d) = decide (k = ks) := by
  unfold isK keysOf
  simp only [keysA_keyD, Option.some.injEq]
theorem ent_get {K : PySem.W.Frag} {H : Hp} (ks : List Key) : ∀ (kvs : List (List Key × V)) (vs : List PyData), RA K H (kvs.map (·.2)) vs → (valV kvs ks = none ∧ getE (entsT kvs vs) ks = none) ∨ ∃ v d, valV kvs ks = some v ∧ getE (entsT kvs vs) ks = some d ∧ R K H v d
  | [], _, .nil => .inl ⟨rfl, rfl⟩
  | (k, v) :: kvs, d :: vs, .cons r q => by
    by_cases h : k = ks
    · refine .inr ⟨v, d, valV_pos h, ?_, r⟩
      unfold getE entsT
      rw [List.map_cons, List.zip_cons_cons, List.find?_cons_of_pos (by rw [isK_ent]; exact decide_eq_true h)]
      rfl
    · have e : getE (entsT ((k, v) :: kvs) (d :: vs)) ks = getE (entsT kvs vs) ks := by
        unfold getE entsT
        rw [List.map_cons, List.zip_cons_cons, List.find?_cons_of_neg (by rw [isK_ent]; simpa using h)]
      rw [valV_neg h, e]
      exact ent_get ks kvs vs q
theorem ent_any (ks : List Key) : ∀ (kvs : List (List Key × V)) (vs : List PyData), kvs.length = vs.length → (kvs.any fun kv => decide (kv.1 = ks)) = (entsT kvs vs).any (isK ks)
  | [], [], _ => rfl
  | (k, v) :: kvs, d :: vs, h => by
    unfold entsT
    rw [List.map_cons, List.zip_cons_cons, List.any_cons, List.any_cons, isK_ent, ent_any ks kvs vs (by simpa using h)]
    rfl
theorem RA.put {K : PySem.W.Frag} {H : Hp} {v : V} {d : PyData} (ks : List Key) (rv : R K H v d) : ∀ (kvs : List (List Key × V)) (vs : List PyData), RA K H (kvs.map (·.2)) vs →
    ∃ ws, RA K H ((kvs.map fun kv => if kv.1 = ks then (kv.1, v) else kv).map (·.2)) ws ∧ entsT (kvs.map fun kv => if kv.1 = ks then (kv.1, v) else kv) ws = (entsT kvs vs).map fun p => if isK ks p = true then (p.1, d) else p
  | [], _, .nil => ⟨[], .nil, rfl⟩
  | (k, w) :: kvs, e :: vs, .cons r q => by
    obtain ⟨ws, h1, h2⟩ := RA.put ks rv kvs vs q
    unfold entsT at h2 ⊢
    by_cases h : k = ks
    · refine ⟨d :: ws, ?_, ?_⟩
      · simp only [List.map_cons, h, if_true]
        exact .cons rv h1
      · simp only [List.map_cons, List.zip_cons_cons, isK_ent, h, decide_true, if_true, h2]
    · refine ⟨e :: ws, ?_, ?_⟩
      · simp only [List.map_cons, h, if_false]
        exact .cons r h1
      · simp only [List.map_cons, List.zip_cons_cons, isK_ent, h, decide_false, if_false, Bool.false_eq_true, h2]
theorem ent_put {K : PySem.W.Frag} {H : Hp} {v : V} {d : PyData} {ks : List Key} {kvs : List (List Key × V)} {vs : List PyData} (rv : R K H v d) (q : RA K H (kvs.map (·.2)) vs) : ∃ ws, RA K H ((putK kvs ks v).map (·.2)) ws ∧ entsT (putK kvs ks v) ws = putE (entsT kvs vs) ks d := by
  have hl : kvs.length = vs.length := by simpa using q.length
  unfold putK putE
  rw [ent_any ks kvs vs hl]
  by_cases h : (entsT kvs vs).any (isK ks) = true
  · rw [if_pos h, if_pos h]
    exact RA.put ks rv kvs vs q
  · rw [if_neg h, if_neg h]
    refine ⟨vs ++ [d], by rw [List.map_append]; exact q.append (.cons rv .nil), ?_⟩
    unfold entsT
    rw [List.map_append, List.zip_append (by simpa using hl)]
    rfl
/-! ### {} -/
abbrev dT0 : PyData := .dict [(.bool true, .none)]
def eNewT : Env → M Sl := fun _ => .ok (.own dT0)
theorem de_newT : DE X E (.Dict [] [] pos) eNewT := ⟨_, pe_dnewT, fun B0 H0 B H σ ρ Q re q => fun p hp => EPost.own re.gr.s hp (.dT (kvs := []) (vs := []) .nil) q⟩
/-! ### k in d, k not in d -/
theorem ent_inv {K : PySem.W.Frag} {H : Hp} {v : V} {es : List (PyData × PyData)} (r : R K H v (.dict ((.bool true, .none) :: es))) : ∃ a kvs vs, v = .ref a ∧ H a = some (.dT kvs) ∧ RA K H (kvs.map (·.2)) vs ∧ es = entsT kvs vs := by
  generalize hd : PyData.dict ((.bool true, .none) :: es) = d at r
  cases r with
  | dT h r =>
    injection hd with hd
    injection hd with _ hd
    exact ⟨_, _, _, rfl, h, r, hd⟩
  | dK h r =>
    rename_i kvs vs
    injection hd with hd
    cases kvs with
    | nil => cases hd
    | cons kv kvs =>
      cases vs with
      | nil => cases hd
      | cons v vs =>
        injection hd with hd _
        injection hd with hd _
        obtain ⟨k, _⟩ := kv
        cases k <;> cases hd
  | tupF h r =>
    injection hd with hd
    injection hd with hd _
    injection hd with hd _
    cases hd
  | ins h r =>
    injection hd with hd
    injection hd with hd _
    injection hd with hd _
    cases hd
  | scr h =>
    injection hd with hd
    injection hd with hd _
    injection hd with hd _
    cases hd
  | _ => cases hd
def rInT (K : PySem.W.Frag) (neg : Bool) : R2 := fun x y H Q => ∃ a b kvs ks, x = .ref b ∧ y = .ref a ∧ H a = some (.dT kvs) ∧ SqT K H b (ks.map kV) ∧ Q (.bl (if neg then !(valV kvs ks).isSome else (valV kvs ks).isSome)) H
theorem key_sq {pins : List (Addr × Obj)} {σ : L2.St} {H : Hp} {s : Shared} {b : Addr} {ks : List Key} (I : Inv X pins σ H s) (h : SqT X.K H b (ks.map kV)) : (tupleKind (mixKind X.prog X.w)).is s.heap ks b := by
  obtain ⟨its, r, ⟨o, h1, h2, n, h3⟩, _⟩ := I.tuple h
  exact ⟨o, its.toArray, n, h1, h2, h3, by simpa using items_are r⟩
theorem op_inT (hu : X.A.units + 1 < cLine) : OpR X (compareOp .In) (rInT X.K false) := by
  intro pins s σ H x y v u Q I rx ry h
  obtain ⟨a, b, kvs, ks, rfl, rfl, e, hb, q⟩ := h
  cases (show v = Value.ref b from rx)
  cases (show u = Value.ref a from ry)
  obtain ⟨z, hd, xs, rel, dd⟩ := dt_rd I.hok (.inl e)
  refine wpAny_in_heap (tupleKind_room_in1 hu) (key_sq I hb) hd dd ?_
  have k := (rel.val ks).isSome_eq
  rw [Option.isSome_map] at k
  rw [← k]
  exact ⟨.bl (valV kvs ks).isSome, H, I.tok _, rfl, q⟩
theorem op_notInT (hu : X.A.units + 1 < cLine) : OpR X (compareOp .NotIn) (rInT X.K true) := by
  intro pins s σ H x y v u Q I rx ry h
  obtain ⟨a, b, kvs, ks, rfl, rfl, e, hb, q⟩ := h
  cases (show v = Value.ref b from rx)
  cases (show u = Value.ref a from ry)
  obtain ⟨z, hd, xs, rel, dd⟩ := dt_rd I.hok (.inl e)
  refine wpAny_notIn_heap (tupleKind_room_in1 hu) (key_sq I hb) hd dd ?_
  have k := (rel.val ks).isSome_eq
  rw [Option.isSome_map] at k
  rw [← k]
  exact ⟨.bl (!(valV kvs ks).isSome), H, I.tok _, rfl, q⟩
def gInTB (d e : PyData) : M Bool := match e with
  | .dict ((.bool true, .none) :: es) => (match keysOfF d with
    | some ks => .ok (es.any (isK ks))
    | none => .stuck)
  | _ => .stuck
def gInT (d e : PyData) : M Sl := (gInTB d e).bind fun b => retB b
def gNotInT (d e : PyData) : M Sl := (gInTB d e).bind fun b => retB (!b)
theorem inT_cases {K : PySem.W.Frag} {neg : Bool} {x y : V} {d e : PyData} {B H : Hp} {Q : VK} {b : Bool} (ex : Ex B H) (rx : R K B x d) (ry : R K B y e) (h : gInTB d e = .ok b) (q : Q (.bl (if neg then !b else b)) H) : rInT K neg x y H Q := by
  unfold gInTB at h
  split at h
  · split at h
    · rename_i ks hk
      cases h
      obtain ⟨b, rfl, hb⟩ := keysOfF_ok (rx.mono ex) hk
      obtain ⟨a, kvs, vs, rfl, ha, ra, rfl⟩ := ent_inv (ry.mono ex)
      refine ⟨a, b, kvs, ks, rfl, rfl, ha, hb, ?_⟩
      have hv : (valV kvs ks).isSome = (entsT kvs vs).any (isK ks) := by
        rw [← valV_any, ent_any ks kvs vs (by simpa using ra.length)]
      rw [hv]
      exact q
    · cases h
  · cases h
theorem od_inT : OpD X E (rInT X.K false) gInT := by
  intro x y d e B H Q ex rx ry q
  unfold gInT at q
  cases hb : gInTB d e with
  | stuck => rw [hb] at q; exact q.elim
  | exc z =>
    unfold gInTB at hb
    split at hb
    · split at hb <;> cases hb
    · cases hb
  | ok b =>
    rw [hb] at q
    exact inT_cases ex rx ry hb (q.val ex (.bl _))
theorem od_notInT : OpD X E (rInT X.K true) gNotInT := by
  intro x y d e B H Q ex rx ry q
  unfold gNotInT at q
  cases hb : gInTB d e with
  | stuck => rw [hb] at q; exact q.elim
  | exc z =>
    unfold gInTB at hb
    split at hb
    · split at hb <;> cases hb
    · cases hb
  | ok b =>
    rw [hb] at q
    exact inT_cases ex rx ry hb (q.val ex (.bl _))
/-! ### d[k] = e -/
def rSetT : TSet := fun o y v H Q => ∃ a H', o = .ref a ∧ DPut H a y v H' ∧ Q H'
theorem set_dict (hu : X.A.units + 1 < cLine) : PSet X rSetT := by
  intro pins s σ H o i v ov iv u Q I ro ri rv h
  obtain ⟨a, H', rfl, g, q⟩ := h
  cases (show ov = Value.ref a from ro)
  exact d_setItem hu I g ri rv fun s' I' => ⟨H', I', q⟩
def oPutT (i : Nat) (fe fi : Env → M Sl) : Env → O := fun ρ => oOf (fe ρ) fun x => match ρ[i]? with
  | some (some (.own (.dict ((.bool true, .none) :: es)))) => oOf (fi ρ) fun y => (match keysOf y.d with
    | some ks => if big (es.length + 1) = true then .nx (ρ.set i (some (.own (.dict ((.bool true, .none) :: putE es ks x.d))))) else .stuck
    | none => .stuck)
  | _ => .stuck
theorem ds_putT {i : Nat} {tpos : Pos} (hu : X.A.units + 1 < cLine) (h : DE X E e fa) (ho : PE X a (tVar i)) (hi : DE X E b fb) (hs : swapsWithSole [Expr.Subscript a b tpos] e pos.line X.env = pure false := by rfl) (hw : swappedStores [Expr.Subscript a b tpos] e X.env = pure none := by rfl)
    (h1 : (assignEach [Expr.Subscript a b tpos] X.env).map (·.2) = [assign (Expr.Subscript a b tpos) X.env] := by rfl)
    (hg : ∀ v, assign (.Subscript a b tpos) X.env v = (do
      let ov ← holding [v] (eval a X.env)
      let iv ← holding [v, ov] (eval b X.env)
      standAt tpos
      holding [v, ov, iv] (setItem ov iv v)
      release [v, ov, iv] []) := by intro _; rfl) : DS X E (.Assign [.Subscript a b tpos] e pos) (oPutT i fa fb) := by
  obtain ⟨t, p, h⟩ := h
  obtain ⟨ti, pi, hi⟩ := hi
  refine ⟨_, ps_asg p (pg_sub ho pi (set_dict hu) hg) hs hw h1, fun B0 H0 B H σ ρ D re q => ?_⟩
  refine h B0 H0 B H σ ρ _ re (epost_of re q fun sl _ q v B1 H1 g1 r => ?_)
  obtain ⟨B2, g2, r2⟩ := r.fix g1
  split at q
  · rename_i es hl
    obtain ⟨p1, o, k1, k2, k3, k4, k5⟩ := re.own i _ hl
    refine ⟨_, k1, ?_⟩
    refine hi B0 H0 B2 H1 σ ρ _ (re.grow g2) (epost_of (re.grow g2) (SPost.grow g2.b q) fun sl2 _ q v2 B3 H3 g3 r3 => ?_)
    obtain ⟨B4, g4, r4⟩ := r3.fix g3
    split at q
    · rename_i ks hk
      split at q
      · rename_i hb
        have g24 := g2.trans g4
        obtain ⟨bk, rfl, hbk⟩ := keysOf_ok (r4.mono g4.s) hk
        have hp1 := g24.h p1 _ k4
        generalize hd : PyData.dict ((.bool true, .none) :: es) = d at k5
        cases k5 with
        | lst _ => cases hd
        | dK ra =>
          rename_i kvs vs
          injection hd with hd
          cases kvs with
          | nil => cases hd
          | cons kv kvs =>
            cases vs with
            | nil => cases hd
            | cons v vs =>
              injection hd with hd _
              injection hd with hd _
              obtain ⟨k, _⟩ := kv
              cases k <;> cases hd
        | dT ra =>
          rename_i kvs vs
          injection hd with hd
          injection hd with _ hd
          subst hd
          have nb : B4 p1 = none := g24.lm k4 k3 (fun _ h => nomatch h)
          obtain ⟨ws, w1, w2⟩ := ent_put (ks := ks) (r2.mono g4.b) (ra.mono g24.b)
          have hlen : kvs.length < sizeLine := by
            have e1 := ra.length
            have e2 := big_ok hb
            simp [List.length_zip] at e1 e2
            omega
          refine ⟨p1, _, rfl, .inr ⟨kvs, ks, bk, hp1, rfl, hbk, hlen, rfl⟩, ?_⟩
          refine q B4 _ σ g4.b ?_
          have hT : Top X.K B4 (.dT (putK kvs ks v)) (.dict ((.bool true, .none) :: entsT (putK kvs ks v) ws)) := .dT w1
          rw [w2] at hT
          exact (re.grow g24).own_put hl k1 hp1 nb k2 hT
      · exact q.elim
    · exact q.elim
  · exact q.elim
end
/-! ### the top's facts with one more Bool -/
end Dl
/-! The data layer: list(reversed(x)), x a list. -/
/-! The data layer: sorted(xs) of alike data. -/
namespace Dl
open PySem PySem.Spec PyProof.Rows L2
section
variable {X : Cx} {E : XK}
def tup1 (d : PyData) : Bool := match d with
  | .tuple (_ :: _) => true
  | _ => false
def noTN (d : PyData) : Bool := match d with
  | .tuple _ => false
  | .none => false
  | _ => true
def srtOk (ds : List PyData) : Bool := (ds.all fun d => ds.all fun e => PySem.W.alike d e) && ((ds.all tup1 || ds.all noTN) && ds.all fun d => d.canLay0 && decide (d.depth ≤ 30))
def srt (ds : List PyData) : List PyData := ds.mergeSort (PySem.W.dataLe false id)
def gSorted (ds : List PyData) : M Sl := match ds with
  | [.list l] => if srtOk l = true then .ok (.own (.list (srt l))) else .stuck
  | _ => .stuck
theorem each_of {K : PySem.W.Frag} {B : Hp} : ∀ {vs : List V} {us : List Value} {ds : List PyData}, Vals vs us → RA K B vs ds → PySem.W.EachIs (fun u d => ∃ v, RelV v u ∧ R K B v d) us ds
  | _, _, _, .nil, .nil => .nil
  | _, _, _, .cons r p, .cons q t => .cons ⟨_, r, q⟩ (each_of p t)
theorem of_each {K : PySem.W.Frag} {B : Hp} {us : List Value} {ds : List PyData} (h : PySem.W.EachIs (fun u d => ∃ v, RelV v u ∧ R K B v d) us ds) : ∃ vs, Vals vs us ∧ RA K B vs ds := by
  induction h with
  | nil => exact ⟨[], .nil, .nil⟩
  | cons r t ih =>
    obtain ⟨v, r1, r2⟩ := r
    obtain ⟨vs, q1, q2⟩ := ih
    exact ⟨v :: vs, .cons r1 q1, .cons r2 q2⟩
theorem each_reads {pins : List (Addr × Obj)} {σ : L2.St} {H B : Hp} {s : Shared} (I : Inv X pins σ H s) (ex : Ex B H) : ∀ {vs : List V} {us : List Value} {ds : List PyData}, Vals vs us → RA X.K B vs ds → (∀ d ∈ ds, d.canLay0 = true) → PySem.W.EachIs (fun u d => ∃ as, Reads s.heap u (id d) as) us ds
  | _, _, _, .nil, .nil, _ => .nil
  | _, _, _, .cons r p, .cons q t, h => .cons (Dp.reads I _ _ _ ((q.mono ex).dp (h _ (List.mem_cons_self ..))) r) (each_reads I ex p t fun d hd => h d (List.mem_cons_of_mem _ hd))
theorem srtOk_ok {ds : List PyData} (h : srtOk ds = true) : PySem.W.AllAlike ds ∧ PySem.W.Sortable ds ∧ ∀ d ∈ ds, d.canLay0 = true ∧ d.depth ≤ 30 := by
  unfold srtOk at h
  rw [Bool.and_eq_true, Bool.and_eq_true, Bool.or_eq_true] at h
  obtain ⟨h1, h2, h3⟩ := h
  refine ⟨fun d hd e he => List.all_eq_true.mp (List.all_eq_true.mp h1 d hd) e he, ?_, fun d hd => ?_⟩
  · rcases h2 with h2 | h2
    · refine .inl fun d hd => ?_
      have := List.all_eq_true.mp h2 d hd
      unfold tup1 at this
      split at this
      · exact ⟨_, _, rfl⟩
      · cases this
    · refine .inr fun d hd => ?_
      have := List.all_eq_true.mp h2 d hd
      unfold noTN at this
      split at this
      · cases this
      · cases this
      · rename_i k1 k2
        exact ⟨k2, k1⟩
  · have := List.all_eq_true.mp h3 d hd
    rw [Bool.and_eq_true, decide_eq_true_eq] at this
    exact this
def rSortD (K : PySem.W.Frag) : List V → Hp → VK → Prop := fun vs H Q => ∃ (a : Addr) (xs : List V) (ds : List PyData) (B : Hp), vs = [.ref a] ∧ SqL K H a xs ∧ Ex B H ∧ RA K B xs ds ∧ srtOk ds = true ∧ ∀ (ys : List V) (p : Addr), RA K B ys (srt ds) → H p = none → Q (.ref p) (upd H p (.lst ys))
theorem cr_sortD (hu : X.A.units + 64 < cLine) : CallR X (.builtin "sorted") (rSortD X.K) := by
  intro pins s σ H vs us Q I r h
  obtain ⟨a, xs, ds, B, rfl, hs, ex, ra, ok, q⟩ := h
  obtain ⟨its, rv, hl, hz⟩ := I.list hs
  rw [Vals.ref1 r]
  obtain ⟨o1, o2, o3⟩ := srtOk_ok ok
  have hlen : ds.length ≤ sizeLine := by rw [← ra.length]; exact hz
  refine PySem.W.sorted_data (bs := ds) (enc := id) hl.isList (each_of rv ra) (each_reads I ex rv ra fun d hd => (o3 d hd).1) (by rw [List.map_id]; exact o1) (by rw [List.map_id]; exact o2) hlen (fun d hd => ?_) fun out ho he => ?_
  · have := (o3 d hd).2
    show X.A.units + 2 + d.depth < cLine
    omega
  · obtain ⟨ys, y1, y2⟩ := of_each he
    obtain ⟨ep, he'⟩ := PyProof.Rows.sortedAll_at s.heap its out.toArray
    have hy : ys.length ≤ sizeLine := by rw [y1.length, ho]; exact hlen
    exact ⟨.ref _, upd H (s.heap.objs.size + 1) (.lst ys), I.laid (t' := s.toks) (fun _ _ => PyProof.Rows.sortedAll_old) (Nat.le_succ _) ⟨hy, out, ep, y1, he'⟩, rfl, q ys _ y2 (I.hok.fresh (Nat.le_succ _))⟩
theorem cd_sortD : CallD X E (rSortD X.K) gSorted := by
  intro xs ds B H Q ex ra q
  unfold gSorted at q
  split at q
  · rename_i l
    split at q
    · rename_i hok
      cases ra with
      | cons r t =>
        cases t
        cases r with
        | lst hh r2 => exact ⟨_, _, l, B, rfl, .of (ex _ _ hh), ex, r2, hok, fun ys p ry hp => EPost.own ex hp (.lst ry) q⟩
    · exact q.elim
  · exact q.elim
end
end Dl
/-! The data layer: what is never reached. -/
namespace Dl
open PySem PySem.Spec PyProof.Rows L2
section
variable {X : Cx} {E : XK}
/-! ### d[k], d.get(k, x), d a dict with tuples for keys -/
def rGetT : R2 := fun x y H Q => ∃ a v, x = .ref a ∧ DGet H a y (some v) ∧ Q v H
def gGetT (d e : PyData) : M Sl := match d with
  | .dict ((.bool true, .none) :: es) => (match keysOf e with
    | some ks => (match getE es ks with
      | some v => .ok (.dat v)
      | none => .stuck)
    | none => .stuck)
  | _ => .stuck
theorem od_getT : OpD X E rGetT gGetT := by
  intro x y d e B H Q ex rx ry q
  unfold gGetT at q
  split at q
  · split at q
    · rename_i ks hk
      split at q
      · rename_i v hv
        obtain ⟨b, rfl, hb⟩ := keysOf_ok (ry.mono ex) hk
        obtain ⟨a, kvs, vs, rfl, ha, ra, rfl⟩ := ent_inv rx
        rcases ent_get ks kvs vs ra with ⟨_, h2⟩ | ⟨w, d', h1, h2, r⟩
        · rw [h2] at hv; cases hv
        · rw [h2] at hv
          cases hv
          exact ⟨a, w, rfl, by rw [← h1]; exact DGet.t (ex _ _ ha) hb, q.val ex r⟩
      · exact q.elim
    · exact q.elim
  · exact q.elim
theorem de_getT {a b : Expr} {fa fb : Env → M Sl} {pos : Pos} (hu : X.A.units + 1 < cLine) (ha : DE X E a fa) (hb : DE X E b fb) (hs : NoSl b) : DE X E (.Subscript a b pos) (eOp gGetT fa fb) := by
  obtain ⟨ta, pa, ha⟩ := ha
  obtain ⟨tb, pb, hb⟩ := hb
  exact ⟨_, pe_dget hu pa pb hs, run_op od_getT ha hb⟩
def gGet2T (d e z : PyData) : M Sl := match d with
  | .dict ((.bool true, .none) :: es) => (match keysOf e with
    | some ks => .ok (.dat ((getE es ks).getD z))
    | none => .stuck)
  | _ => .stuck
def eGet2T (fa fb fc : Env → M Sl) : Env → M Sl := fun ρ => (fa ρ).bind fun x => match x.d with
  | .dict ((.bool true, .none) :: es) => (fb ρ).bind fun y => (fc ρ).bind fun z => gGet2T (.dict ((.bool true, .none) :: es)) y.d z.d
  | _ => .stuck
theorem de_get2T {a b c : Expr} {fa fb fc : Env → M Sl} {apos cpos : Pos} (hu : X.A.units + 1 < cLine) (ha : DE X E a fa) (hb : DE X E b fb) (hc : DE X E c fc) (m : M2 X a "get" apos b c cpos) : DE X E (.Call (.Attribute a "get" apos) [b, c] [] cpos) (eGet2T fa fb fc) := by
  obtain ⟨ta, pa, ha⟩ := ha
  obtain ⟨tb, pb, hb⟩ := hb
  obtain ⟨tc, pc, hc⟩ := hc
  refine ⟨_, pe_dget2 hu pa pb pc m, fun B0 H0 B H σ ρ Q re q => ?_⟩
  refine run_e ha re ?_
  rcases q.bind with ⟨x, e1, q⟩ | ⟨x, e1, q⟩
  · refine .inl ⟨x, e1, fun v B1 H1 g1 r1 => ?_⟩
    have q := EPost.grow g1 q
    split at q
    · rename_i es hx
      rw [hx] at r1
      obtain ⟨a, kvs, vs, rfl, hd, ra, rfl⟩ := ent_inv r1
      refine ⟨a, rfl, .inr ⟨kvs, .inl (g1.s _ _ hd)⟩, ?_⟩
      refine run_e hb (re.grow g1) ?_
      rcases q.bind with ⟨y, e2, q⟩ | ⟨y, e2, q⟩
      · refine .inl ⟨y, e2, fun u B2 H2 g2 r2 => ?_⟩
        have q := EPost.grow g2 q
        refine run_e hc ((re.grow g1).grow g2) ?_
        rcases q.bind with ⟨z, e3, q⟩ | ⟨z, e3, q⟩
        · refine .inl ⟨z, e3, fun w B3 H3 g3 r3 => ?_⟩
          have q := EPost.grow g3 q
          have q : EPost X.K E B3 H3 (match keysOf y.d with
            | some ks => .ok (.dat ((getE (entsT kvs vs) ks).getD z.d))
            | none => .stuck) Q := q
          cases hk : keysOf y.d with
          | none => rw [hk] at q; exact q.elim
          | some ks =>
            rw [hk] at q
            have q : EPost X.K E B3 H3 (.ok (.dat ((getE (entsT kvs vs) ks).getD z.d))) Q := q
            have hd3 := (g2.trans g3).b _ _ hd
            have ra3 := ra.mono (g2.trans g3).b
            obtain ⟨b, rfl, hb⟩ := keysOf_ok (r2.mono g3.b) hk
            rcases ent_get ks kvs vs ra3 with ⟨h1, h2⟩ | ⟨w', d', h1, h2, r⟩
            · rw [h2] at q
              exact ⟨none, by rw [← h1]; exact DGet.t (g3.s _ _ hd3) (g3.s _ _ hb), q.val g3.s r3⟩
            · rw [h2] at q
              exact ⟨some w', by rw [← h1]; exact DGet.t (g3.s _ _ hd3) (g3.s _ _ hb), q.val g3.s r⟩
        · exact .inr ⟨z, e3, q⟩
      · exact .inr ⟨y, e2, q⟩
    · exact q.elim
  · exact .inr ⟨x, e1, q⟩
end
end Dl
/-! The data layer: instances that stand still (their fields, their methods), raise. -/
namespace Dl
open PySem PySem.Spec PyProof.Rows L2
section
variable {X : Cx} {E : XK} {a b c e o : Expr} {es : List Expr} {fa fb fo : Env → M Sl} {pos : Pos}
/-! ### fields -/
def isF (f : Str) (p : PyData × PyData) : Bool := match p.1 with
  | .str x => decide (x = f)
  | _ => false
def getF (es : List (PyData × PyData)) (f : Str) : Option PyData := (es.find? (isF f)).map (·.2)
/-! ### methods -/
def insOf (x m : Str) (d : PyData) : Bool := match d with
  | .dict ((.none, .str y) :: es) => decide (y = x) && (getF es m).isNone
  | _ => false
def eMeth (x m : Str) (g : List PyData → M Sl) (fo : Env → M Sl) (f : Env → M (List PyData)) : Env → M Sl := fun ρ => (fo ρ).bind fun o => if insOf x m o.d = true then (f ρ).bind fun ds => g (o.d :: ds) else .stuck
end
/-! ### raise X('..') -/
section
variable {X : Cx} {E : XK}
def oExc (x : Str) : Env → O := fun _ => .exc x
structure ExcOk (X : Cx) (x : Str) : Prop where
  q : PySem.W.excIn X.K (He.ga X.K x) He.veBase "ValueError.__new__" = true
  kp : PySem.W.keepIn X.K (.ref (He.ga X.K x)) = true
  r : Raises X (.ref (He.ga X.K x))
  mg : X.mg x = some (.ref (He.ga X.K x))
theorem ds_raise {x m : Str} {j : Nat} {p p2 pos pos2 : Pos} (hc : X.calm = true) (tk : Takes X (fun c d _ H => E c d H)) (T : ExcOk X x) (hg : Gl X x) (hdb : (x == ("__debug__" : Str)) = false := by decide) : DS X E (.Raise (some (.Call (.Name x p) [.Constant (.str m) j p2] [] pos)) none pos2) (oExc x) := by
  refine ⟨_, ps_raise hc tk (pmk_own PySem.F.excBase_ValueError T.q T.mg T.kp T.r hg hdb), fun B0 H0 B H σ ρ D re q => ?_⟩
  exact q H re.gr.h
end
/-! ### methods' defs -/
end Dl
/-! The layer with objects that change: a store of instances (cells), each known by its number. -/
namespace Dl
open PySem PySem.Spec PyProof.Rows L2
/-- what a slot or a field holds: fixed data, a list or dict of one's own, the instance of a number -/
inductive Sv where
  | dat (d : PyData)
  | own (d : PyData)
  | ref (n : Nat)
  /-- the exception that a suite holds -/
  | exc
structure Cell where
  cls : Str
  fs : List (Str × Sv)
abbrev Store := List Cell
structure S2 where
  ρ : List (Option Sv)
  C : Store
inductive M2 (α : Type) where
  | stuck
  | exc (x : Str) (s : S2)
  | ok (a : α) (s : S2)
def M2.bind {α β : Type} : M2 α → (α → S2 → M2 β) → M2 β
  | .stuck, _ => .stuck
  | .exc x s, _ => .exc x s
  | .ok a s, f => f a s
inductive Owner where
  | cell (n : Nat)
  | fld (n : Nat) (f : Str)
/-- what a thing of one's own may be; b: also a list, a dict -/
def OwnZ (b : Bool) (o : HO) : Prop := match o with
  | .ins _ _ _ => True
  | .lst _ => b = true
  | .dK _ => b = true
  | .dT _ => b = true
  | _ => False
def OwnK (k : Owner) (o : HO) : Prop := match k with
  | .cell _ => OwnZ false o
  | .fld _ _ => Own o
theorem OwnK.noT {k : Owner} {o : HO} (h : OwnK k o) : ∀ xs, o ≠ .tup xs := by
  rintro xs rfl
  cases k <;> exact h
/-- the world: what is fixed, the heap, where the cells stand, who owns what -/
structure Wd where
  B : Hp
  H : Hp
  μ : Nat → Addr
  Ω : Addr → Option Owner
/-- the value v is what the field f of cell n holds -/
inductive FV (K : PySem.W.Frag) (w : Wd) (L n : Nat) (f : Str) : V → Sv → Prop
  | dat {v : V} {d : PyData} : R K w.B v d → FV K w L n f v (.dat d)
  | own {p : Addr} {o : HO} {d : PyData} : w.Ω p = some (.fld n f) → w.H p = some o → Top K w.B o d → FV K w L n f (.ref p) (.own d)
  | ref {m : Nat} : m < L → FV K w L n f (.ref (w.μ m)) (.ref m)
inductive FVs (K : PySem.W.Frag) (w : Wd) (L n : Nat) : List (Str × V) → List (Str × Sv) → Prop
  | nil : FVs K w L n [] []
  | cons {f : Str} {v : V} {sv : Sv} {fs : List (Str × V)} {gs : List (Str × Sv)} : FV K w L n f v sv → FVs K w L n fs gs → FVs K w L n ((f, v) :: fs) ((f, sv) :: gs)
/-- the store stands in the world -/
structure SR (K : PySem.W.Frag) (w : Wd) (C : Store) : Prop where
  s : Ex w.B w.H
  cell : ∀ n c, C[n]? = some c → ∃ dx fs, w.Ω (w.μ n) = some (.cell n) ∧ w.H (w.μ n) = some (.ins (He.ga K c.cls) dx fs) ∧ (c.fs.map (·.1)).Nodup ∧ FVs K w C.length n fs c.fs
  out : ∀ a o, w.Ω a = some o → w.B a = none
  has : ∀ a o, w.Ω a = some o → ∃ h, w.H a = some h ∧ OwnK o h
/-- how the world goes on: L cells stood -/
structure Chg (w : Wd) (L : Nat) (w' : Wd) : Prop where
  b : Ex w.B w'.B
  h : ∀ a o, w.H a = some o → w.Ω a = none → w'.H a = some o
  l : ∀ a o, w.H a = some o → w.Ω a = none → w.B a = none → w'.B a = none ∨ ∃ xs, o = .tup xs
  o : ∀ a o, w.H a = some o → w.Ω a = none → w'.Ω a = none
  k : ∀ a o, w.H a = some o → ∃ o', w'.H a = some o'
  m : ∀ n, n < L → w'.μ n = w.μ n
theorem Chg.refl (w : Wd) (L : Nat) : Chg w L w := ⟨.refl _, fun _ _ h _ => h, fun _ _ _ _ h => .inl h, fun _ _ _ h => h, fun _ o h => ⟨o, h⟩, fun _ _ => rfl⟩
theorem Chg.trans {w w1 w2 : Wd} {L L1 : Nat} (x : Chg w L w1) (y : Chg w1 L1 w2) (hl : L ≤ L1) : Chg w L w2 where
  b := x.b.trans y.b
  h := fun a o h n => y.h a o (x.h a o h n) (x.o a o h n)
  l := fun a o h n b => (x.l a o h n b).elim (fun m => y.l a o (x.h a o h n) (x.o a o h n) m) .inr
  o := fun a o h n => y.o a o (x.h a o h n) (x.o a o h n)
  k := fun a o h => let ⟨o', h'⟩ := x.k a o h; y.k a o' h'
  m := fun n h => (y.m n (Nat.lt_of_lt_of_le h hl)).trans (x.m n h)
/-- from here on: what stays while values are held -/
structure Up (w : Wd) (L : Nat) (w' : Wd) : Prop where
  b : Ex w.B w'.B
  m : ∀ n, n < L → w'.μ n = w.μ n
theorem Up.refl (w : Wd) (L : Nat) : Up w L w := ⟨.refl _, fun _ _ => rfl⟩
theorem Up.trans {w w1 w2 : Wd} {L L1 : Nat} (x : Up w L w1) (y : Up w1 L1 w2) (hl : L ≤ L1) : Up w L w2 := ⟨x.b.trans y.b, fun n h => (y.m n (Nat.lt_of_lt_of_le h hl)).trans (x.m n h)⟩
/-- a def's run: the world it began in, how many cells stood -/
structure Fr where
  w : Wd
  L : Nat
  /-- where the exception stands that a suite holds -/
  x : Addr
structure FrX (X : Cx) where
  f : Fr
  ok : X.calm = false → ∃ oe pn, X.pn = (f.x, oe) :: pn
instance {X : Cx} : CoeOut (FrX X) Fr := ⟨FrX.f⟩
/-- the slots and the store in the world -/
structure ER2 (K : PySem.W.Frag) (F : Fr) (w : Wd) (σ : L2.St) (s : S2) : Prop where
  gr : Chg F.w F.L w
  ln : F.L ≤ s.C.length
  st : SR K w s.C
  len : σ.length = s.ρ.length
  dat : ∀ (i : Nat) d, s.ρ[i]? = some (some (.dat d)) → ∃ v, σ[i]? = some (some v) ∧ R K w.B v d
  own : ∀ (i : Nat) d, s.ρ[i]? = some (some (.own d)) → ∃ p o, σ[i]? = some (some (.ref p)) ∧ F.w.H p = none ∧ w.B p = none ∧ w.Ω p = none ∧ w.H p = some o ∧ Top K w.B o d
  ex : ∀ (i : Nat), s.ρ[i]? = some (some .exc) → σ[i]? = some (some (.ref F.x))
  rf : ∀ (i : Nat) n, s.ρ[i]? = some (some (.ref n)) → σ[i]? = some (some (.ref (w.μ n))) ∧ n < s.C.length
  sep : ∀ (i j : Nat) d e p, s.ρ[i]? = some (some (.own d)) → s.ρ[j]? = some (some (.own e)) → σ[i]? = some (some (.ref p)) → σ[j]? = some (some (.ref p)) → i = j
/-- v is the value sv, nobody's yet -/
def VR (K : PySem.W.Frag) (F : Fr) (w : Wd) (σ : L2.St) (s : S2) (v : V) : Sv → Prop
  | .dat d => R K w.B v d
  | .own d => ∃ p o, v = .ref p ∧ F.w.H p = none ∧ w.B p = none ∧ w.Ω p = none ∧ w.H p = some o ∧ Top K w.B o d ∧ ∀ (i : Nat) e, s.ρ[i]? = some (some (.own e)) → σ[i]? ≠ some (some (.ref p))
  | .ref n => v = .ref (w.μ n) ∧ n < s.C.length
  | .exc => False
section
variable {K : PySem.W.Frag} {F : Fr} {w w' : Wd} {σ : L2.St} {s : S2}
theorem FV.mono {L L' n : Nat} {f : Str} {v : V} {sv : Sv} (hl : L ≤ L') (hb : Ex w.B w'.B) (hm : ∀ m, m < L → w'.μ m = w.μ m) (ho : ∀ p o, w.Ω p = some (.fld n f) → w.H p = some o → w'.Ω p = some (.fld n f) ∧ w'.H p = some o) (h : FV K w L n f v sv) : FV K w' L' n f v sv := by
  cases h with
  | dat r => exact .dat (r.mono hb)
  | own h1 h2 t => exact .own (ho _ _ h1 h2).1 (ho _ _ h1 h2).2 (t.mono hb)
  | ref h => rw [← hm _ h]; exact .ref (Nat.lt_of_lt_of_le h hl)
theorem FVs.mono {L L' n : Nat} {fs : List (Str × V)} {gs : List (Str × Sv)} (hl : L ≤ L') (hb : Ex w.B w'.B) (hm : ∀ m, m < L → w'.μ m = w.μ m) (ho : ∀ p f o, w.Ω p = some (.fld n f) → w.H p = some o → w'.Ω p = some (.fld n f) ∧ w'.H p = some o) (h : FVs K w L n fs gs) : FVs K w' L' n fs gs := by
  induction h with
  | nil => exact .nil
  | cons h _ ih => exact .cons (h.mono hl hb hm fun p o => ho p _ o) ih
/-- p is a slot's own -/
def OwnAt (σ : L2.St) (ρ : List (Option Sv)) (p : Addr) : Prop := ∃ (i : Nat) (d : PyData), ρ[i]? = some (some (.own d)) ∧ σ[i]? = some (some (.ref p))
/-- new things come beside -/
theorem ER2.grow {B' H' : Hp} (r : ER2 K F w σ s) (g : Gr w.B w.H B' H') : ER2 K F { w with B := B', H := H' } σ s where
  gr := ⟨r.gr.b.trans g.b, fun a o h n => g.h _ _ (r.gr.h a o h n), fun a o h n b => (r.gr.l a o h n b).elim (fun m => g.l _ _ (r.gr.h a o h n) m) .inr, r.gr.o, fun a o h => let ⟨o', h'⟩ := r.gr.k a o h; ⟨o', g.h _ _ h'⟩, r.gr.m⟩
  ln := r.ln
  st := ⟨g.s, fun n c e => let ⟨dx, fs, h1, h2, h0, h3⟩ := r.st.cell n c e; ⟨dx, fs, h1, g.h _ _ h2, h0, h3.mono (Nat.le_refl _) g.b (fun _ _ => rfl) fun p f o q1 q2 => ⟨q1, g.h _ _ q2⟩⟩, fun a o h => let ⟨u, q, z⟩ := r.st.has a o h; g.lm q (r.st.out a o h) z.noT, fun a o h => let ⟨u, q, z⟩ := r.st.has a o h; ⟨u, g.h _ _ q, z⟩⟩
  len := r.len
  dat := fun i d e => let ⟨v, h1, h2⟩ := r.dat i d e; ⟨v, h1, h2.mono g.b⟩
  own := fun i d e => let ⟨p, o, h1, h2, h3, h4, h5, h6⟩ := r.own i d e; ⟨p, o, h1, h2, g.lm h5 h3 h6.noT, h4, g.h _ _ h5, h6.mono g.b⟩
  ex := r.ex
  rf := r.rf
  sep := r.sep
def Sv.isRef : Sv → Bool
  | .ref _ => true
  | .exc => true
  | _ => false
def Sv.d : Sv → PyData
  | .dat d => d
  | .own d => d
  | .ref _ => .none
  | .exc => .none
/-- a value of one's own is fixed -/
theorem ER2.fixV {v : V} {sv : Sv} (r : ER2 K F w σ s) (q : VR K F w σ s v sv) (hr : sv.isRef = false) : ∃ w', Up w s.C.length w' ∧ w'.H = w.H ∧ w'.μ = w.μ ∧ ER2 K F w' σ s ∧ R K w'.B v sv.d := by
  cases sv with
  | dat d => exact ⟨w, .refl _ _, rfl, rfl, r, q⟩
  | ref n => cases hr
  | exc => cases hr
  | own d =>
    obtain ⟨p, o, rfl, h0, hb, ho, hp, t, hs⟩ := q
    have x : Ex w.B (upd w.B p o) := .new hb
    refine ⟨{ w with B := upd w.B p o }, ⟨x, fun _ _ => rfl⟩, rfl, rfl, ?_, (t.mono x).r upd_same⟩
    refine ⟨⟨r.gr.b.trans x, r.gr.h, fun a u h n b => ?_, r.gr.o, r.gr.k, r.gr.m⟩, r.ln, ⟨fun a u h => ?_, fun n c e => ?_, fun a u h => ?_, r.st.has⟩, r.len, fun i c e => ?_, fun i c e => ?_, r.ex, r.rf, r.sep⟩
    · show upd w.B p o a = none ∨ _
      rw [upd_ne (ne_of_none h h0)]
      exact r.gr.l a u h n b
    · have h : upd w.B p o a = some u := h
      by_cases z : a = p
      · subst z
        rw [upd_same] at h
        cases h
        exact hp
      · rw [upd_ne z] at h
        exact r.st.s a u h
    · obtain ⟨dx, fs, h1, h2, h0, h3⟩ := r.st.cell n c e
      exact ⟨dx, fs, h1, h2, h0, h3.mono (Nat.le_refl _) x (fun _ _ => rfl) fun p f o q1 q2 => ⟨q1, q2⟩⟩
    · show upd w.B p o a = none
      have z : a ≠ p := fun z => by
        have h : w.Ω a = some u := h
        rw [z, ho] at h
        cases h
      rw [upd_ne z]
      exact r.st.out a u h
    · obtain ⟨v, k1, k2⟩ := r.dat i c e
      exact ⟨v, k1, k2.mono x⟩
    · obtain ⟨p2, o2, k1, k2, k3, k4, k5, k6⟩ := r.own i c e
      have z : p2 ≠ p := fun z => hs i c e (by rw [k1, z])
      exact ⟨p2, o2, k1, k2, by show upd w.B p o p2 = none; rw [upd_ne z]; exact k3, k4, k5, k6.mono x⟩
end
/-! ### weakest readings -/
/-! ### judgements -/
section
variable {K : PySem.W.Frag} {F : Fr} {W : WX} {w w' : Wd} {σ : L2.St} {s : S2} {L : Nat}
/-- what is wanted of an exception -/
def XP2 (K : PySem.W.Frag) (F : Fr) (W : WX) (σ : L2.St) (w : Wd) (L : Nat) (x : Str) (s' : S2) : Prop := ∀ w', Up w L w' → L ≤ s'.C.length → ER2 K F w' σ s' → W (.ref (He.ga K x)) none σ w'.H
def EP2 (K : PySem.W.Frag) (F : Fr) (W : WX) (σ : L2.St) (w : Wd) (L : Nat) (r : M2 Sv) (Q : VK) : Prop := match r with
  | .stuck => False
  | .exc x s' => XP2 K F W σ w L x s'
  | .ok sv s' => ∀ v w', Up w L w' → L ≤ s'.C.length → ER2 K F w' σ s' → VR K F w' σ s' v sv → Q v w'.H
def TP2 (K : PySem.W.Frag) (F : Fr) (W : WX) (σ : L2.St) (w : Wd) (L : Nat) (r : M2 Bool) (Q : Bool → Hp → Prop) : Prop := match r with
  | .stuck => False
  | .exc x s' => XP2 K F W σ w L x s'
  | .ok b s' => ∀ w', Up w L w' → L ≤ s'.C.length → ER2 K F w' σ s' → Q b w'.H
/-- an argument: fixed data, or an instance -/
def AV (K : PySem.W.Frag) (w : Wd) (L : Nat) (v : V) : Sv → Prop
  | .dat d => R K w.B v d
  | .own _ => False
  | .ref n => v = .ref (w.μ n) ∧ n < L
  | .exc => False
inductive AVs (K : PySem.W.Frag) (w : Wd) (L : Nat) : List V → List Sv → Prop
  | nil : AVs K w L [] []
  | cons {v : V} {sv : Sv} {vs : List V} {svs : List Sv} : AV K w L v sv → AVs K w L vs svs → AVs K w L (v :: vs) (sv :: svs)
theorem AV.mono {L L' : Nat} {v : V} {sv : Sv} (hl : L ≤ L') (u : Up w L w') (h : AV K w L v sv) : AV K w' L' v sv := by
  cases sv with
  | dat d => exact R.mono u.b h
  | own d => exact h
  | exc => exact h
  | ref n => exact ⟨by rw [u.m _ h.2]; exact h.1, Nat.lt_of_lt_of_le h.2 hl⟩
theorem AVs.mono {L L' : Nat} {vs : List V} {svs : List Sv} (hl : L ≤ L') (u : Up w L w') (h : AVs K w L vs svs) : AVs K w' L' vs svs := by
  induction h with
  | nil => exact .nil
  | cons h _ ih => exact .cons (h.mono hl u) ih
theorem AVs.length {L : Nat} {vs : List V} {svs : List Sv} (h : AVs K w L vs svs) : vs.length = svs.length := by
  induction h with
  | nil => rfl
  | cons _ _ ih => rw [List.length_cons, List.length_cons, ih]
def AP2 (K : PySem.W.Frag) (F : Fr) (W : WX) (σ : L2.St) (w : Wd) (L : Nat) (r : M2 (List Sv)) (Q : List V → Hp → Prop) : Prop := match r with
  | .stuck => False
  | .exc x s' => XP2 K F W σ w L x s'
  | .ok svs s' => ∀ vs w', Up w L w' → L ≤ s'.C.length → ER2 K F w' σ s' → AVs K w' s'.C.length vs svs → Q vs w'.H
theorem XP2.grow {L' : Nat} {x : Str} {s' : S2} (hl : L ≤ L') (u : Up w L w') (h : XP2 K F W σ w L x s') : XP2 K F W σ w' L' x s' := fun w2 u2 l2 r => h w2 (u.trans u2 hl) (Nat.le_trans hl l2) r
theorem EP2.grow {L' : Nat} {r : M2 Sv} {Q : VK} (hl : L ≤ L') (u : Up w L w') (h : EP2 K F W σ w L r Q) : EP2 K F W σ w' L' r Q := by
  cases r with
  | stuck => exact h
  | exc x s' => exact XP2.grow hl u h
  | ok sv s' => exact fun v w2 u2 l2 => h v w2 (u.trans u2 hl) (Nat.le_trans hl l2)
theorem TP2.grow {L' : Nat} {r : M2 Bool} {Q : Bool → Hp → Prop} (hl : L ≤ L') (u : Up w L w') (h : TP2 K F W σ w L r Q) : TP2 K F W σ w' L' r Q := by
  cases r with
  | stuck => exact h
  | exc x s' => exact XP2.grow hl u h
  | ok sv s' => exact fun w2 u2 l2 => h w2 (u.trans u2 hl) (Nat.le_trans hl l2)
theorem AP2.grow {L' : Nat} {r : M2 (List Sv)} {Q : List V → Hp → Prop} (hl : L ≤ L') (u : Up w L w') (h : AP2 K F W σ w L r Q) : AP2 K F W σ w' L' r Q := by
  cases r with
  | stuck => exact h
  | exc x s' => exact XP2.grow hl u h
  | ok sv s' => exact fun v w2 u2 l2 => h v w2 (u.trans u2 hl) (Nat.le_trans hl l2)
theorem EP2.bind {α : Type} {r : M2 α} {g : α → S2 → M2 Sv} {Q : VK} (h : EP2 K F W σ w L (r.bind g) Q) : (∃ a s', r = .ok a s' ∧ EP2 K F W σ w L (g a s') Q) ∨ ∃ x s', r = .exc x s' ∧ XP2 K F W σ w L x s' := by
  cases r with
  | stuck => exact h.elim
  | exc x s' => exact .inr ⟨x, s', rfl, h⟩
  | ok a s' => exact .inl ⟨a, s', rfl, h⟩
theorem TP2.bind {α : Type} {r : M2 α} {g : α → S2 → M2 Bool} {Q : Bool → Hp → Prop} (h : TP2 K F W σ w L (r.bind g) Q) : (∃ a s', r = .ok a s' ∧ TP2 K F W σ w L (g a s') Q) ∨ ∃ x s', r = .exc x s' ∧ XP2 K F W σ w L x s' := by
  cases r with
  | stuck => exact h.elim
  | exc x s' => exact .inr ⟨x, s', rfl, h⟩
  | ok a s' => exact .inl ⟨a, s', rfl, h⟩
theorem AP2.bind {α : Type} {r : M2 α} {g : α → S2 → M2 (List Sv)} {Q : List V → Hp → Prop} (h : AP2 K F W σ w L (r.bind g) Q) : (∃ a s', r = .ok a s' ∧ AP2 K F W σ w L (g a s') Q) ∨ ∃ x s', r = .exc x s' ∧ XP2 K F W σ w L x s' := by
  cases r with
  | stuck => exact h.elim
  | exc x s' => exact .inr ⟨x, s', rfl, h⟩
  | ok a s' => exact .inl ⟨a, s', rfl, h⟩
end
/-! ### runs, seen from what comes behind -/
end Dl
/-! The layer with objects that change: expressions. -/
namespace Dl
open PySem PySem.Spec PyProof.Rows L2
/-! ### methods and makers, where what is let out may look at the slots -/
/-! ### all that is one's own, seen as if it stood still -/
/-- what can be seen at a -/
def Seen (b : Bool) (w : Wd) (σ : L2.St) (ρ : List (Option Sv)) (a : Addr) : Prop := (∃ n, w.Ω a = some (.cell n)) ∨ (b = true ∧ ((∃ o, w.Ω a = some o) ∨ OwnAt σ ρ a))
open Classical in
noncomputable def pubB (b : Bool) (w : Wd) (σ : L2.St) (ρ : List (Option Sv)) : Hp := fun a => if Seen b w σ ρ a then w.H a else w.B a
section
variable {K : PySem.W.Frag} {F : Fr} {w : Wd} {σ : L2.St} {s : S2} {b : Bool}
theorem pub_ex (r : ER2 K F w σ s) : Ex w.B (pubB b w σ s.ρ) := fun a o h => by
  unfold pubB
  split
  · rename_i z
    exfalso
    rcases z with ⟨n, z⟩ | ⟨_, ⟨n, z⟩ | ⟨i, d, z1, z2⟩⟩
    · rw [r.st.out a _ z] at h; cases h
    · rw [r.st.out a _ z] at h; cases h
    · obtain ⟨p, o2, k1, _, k3, _⟩ := r.own i d z1
      rw [z2] at k1
      cases k1
      rw [k3] at h
      cases h
  · exact h
theorem pub_sub (r : ER2 K F w σ s) : Ex (pubB b w σ s.ρ) w.H := fun a o h => by
  unfold pubB at h
  split at h
  · exact h
  · exact r.st.s a o h
theorem pub_kind (r : ER2 K F w σ s) : ∀ a o, pubB b w σ s.ρ a = some o → w.B a = some o ∨ OwnZ b o := fun a o h => by
  unfold pubB at h
  split at h
  · rename_i z
    have own_z : ∀ o, Own o → OwnZ true o := fun o h => by
      cases o <;> first | rfl | exact h.elim
    rcases z with ⟨n, z⟩ | ⟨hb, ⟨n, z⟩ | ⟨i, d, z1, z2⟩⟩
    · obtain ⟨u, k1, k2⟩ := r.st.has a _ z
      rw [h] at k1
      cases k1
      refine .inr ?_
      have k2 : OwnZ false o := k2
      unfold OwnZ at k2 ⊢
      split at k2 <;> first | trivial | cases k2 | exact k2.elim
    · obtain ⟨u, k1, k2⟩ := r.st.has a _ z
      rw [h] at k1
      cases k1
      subst hb
      refine .inr ?_
      cases n with
      | cell n =>
        have k2 : OwnZ false o := k2
        unfold OwnZ at k2 ⊢
        split at k2 <;> first | trivial | cases k2 | exact k2.elim
      | fld n f => exact own_z o k2
    · subst hb
      obtain ⟨p, o2, k1, _, _, _, k5, k6⟩ := r.own i d z1
      rw [z2] at k1
      cases k1
      rw [h] at k5
      cases k5
      exact .inr (own_z o k6.ownO)
  · exact .inl h
end
/-! ### .. and back -/
mutual
def okD (b : Bool) : PyData → Bool
  | .none => true
  | .bool _ => true
  | .int _ => true
  | .str _ => true
  | .tuple xs => okDA b xs
  | .list xs => !b && okDA b xs
  | .dict _ => false
def okDA (b : Bool) : List PyData → Bool
  | [] => true
  | x :: xs => okD b x && okDA b xs
end
section
variable {K : PySem.W.Frag} {B B' : Hp} {b : Bool}
mutual
theorem R.okR (h : ∀ a o, B a = some o → B' a = some o ∨ OwnZ b o) : ∀ {v : V} {d : PyData}, R K B v d → okD b d = true → R K B' v d
  | _, _, .non, _ => .non
  | _, _, .bl b, _ => .bl b
  | _, _, .int i, _ => .int i
  | _, _, .str x, _ => .str x
  | _, _, .lst hs r, i => by
    rw [okD, Bool.and_eq_true] at i
    refine .lst ?_ (RA.okR h r i.2)
    refine (h _ _ hs).elim id fun z => ?_
    have z : b = true := z
    rw [z] at i
    cases i.1
  | _, _, .tup hs r, i => by
    refine .tup ?_ (RA.okR h r (by simpa [okD] using i))
    exact (h _ _ hs).elim id False.elim
  | _, _, .tupF _ _, i => by simp [okD] at i
  | _, _, .dK _ _, i => by simp [okD] at i
  | _, _, .dT _ _, i => by simp [okD] at i
  | _, _, .ins _ _, i => by simp [okD] at i
  | _, _, .scr _, i => by simp [okD] at i
theorem RA.okR (h : ∀ a o, B a = some o → B' a = some o ∨ OwnZ b o) : ∀ {vs : List V} {ds : List PyData}, RA K B vs ds → okDA b ds = true → RA K B' vs ds
  | _, _, .nil, _ => .nil
  | _, _, .cons r q, i => by
    rw [okDA, Bool.and_eq_true] at i
    exact .cons (R.okR h r i.1) (RA.okR h q i.2)
end
end
def okSl (b : Bool) : Sl → Bool
  | .dat d => okD b d
  | .own (.list ds) => okDA b ds
  | .own _ => false
section
variable {X : Cx} {W : WX} {F : FrX X} {w : Wd} {σ : L2.St} {s : S2} {e a o : Expr} {es : List Expr} {pos : Pos}
theorem ER2.back {K : PySem.W.Frag} {b : Bool} {v : V} {sl : Sl} {B3 H3 : Hp} (r : ER2 K F w σ s) (g : Gr (pubB b w σ s.ρ) w.H B3 H3) (q : Res K w.H B3 H3 v sl) (ok : okSl b sl = true) : ∃ B', Gr w.B w.H B' H3 ∧ Res K w.H B' H3 v sl := by
  obtain ⟨B', g', n', e'⟩ := back_of2 (pub_ex r) (pub_sub r) (pub_kind r) g
  refine ⟨B', g', ?_⟩
  cases sl with
  | dat d => exact R.okR n' q ok
  | own d =>
    obtain ⟨p, o, h1, h2, h3, h4, h5⟩ := q
    refine ⟨p, o, h1, h2, by rw [e' p h2]; exact h3, h4, ?_⟩
    cases h5 with
    | lst ra => exact .lst (ra.okR n' ok)
    | dK ra => cases ok
    | dT ra => cases ok
/-! ### a slot's instance; operators; arguments; calls -/
/-! ### tests -/
def tst (f : S2 → M2 Sv) : S2 → M2 Bool := fun s => (f s).bind fun x s1 => if x.isRef = true then .stuck else match isB x.d with
  | .ok b => .ok b s1
  | _ => .stuck
/-! ### values by and, or, not, if -/
/-! ### arguments -/
end
end Dl
/-! The layer with objects that change: statements. -/
namespace Dl
open PySem PySem.Spec PyProof.Rows L2
inductive O2 where
  | stuck
  | exc (x : Str) (s : S2)
  | nx (s : S2)
  | rt (sv : Sv) (s : S2)
  | bk (s : S2)
  | ct (s : S2)
def SP2 (K : PySem.W.Frag) (F : Fr) (W : WX) (w : Wd) (L : Nat) (D : Ends) (o : O2) : Prop := match o with
  | .stuck => False
  | .exc x s' => ∀ w' σ', Up w L w' → L ≤ s'.C.length → ER2 K F w' σ' s' → W (.ref (He.ga K x)) none σ' w'.H
  | .nx s' => ∀ w' σ', Up w L w' → L ≤ s'.C.length → ER2 K F w' σ' s' → D.nx σ' w'.H
  | .bk s' => ∀ w' σ', Up w L w' → L ≤ s'.C.length → ER2 K F w' σ' s' → D.bk σ' w'.H
  | .ct s' => ∀ w' σ', Up w L w' → L ≤ s'.C.length → ER2 K F w' σ' s' → D.ct σ' w'.H
  | .rt sv s' => ∀ v w' σ', Up w L w' → L ≤ s'.C.length → ER2 K F w' σ' s' → VR K F w' σ' s' v sv → D.rt v w'.H
section
variable {K : PySem.W.Frag} {F : Fr} {W : WX} {w w' : Wd} {σ : L2.St} {s : S2} {L : Nat} {D : Ends}
theorem SP2.grow {L' : Nat} {o : O2} (hl : L ≤ L') (u : Up w L w') (h : SP2 K F W w L D o) : SP2 K F W w' L' D o := by
  cases o with
  | stuck => exact h
  | exc x s' => exact fun w2 σ2 u2 l2 => h w2 σ2 (u.trans u2 hl) (Nat.le_trans hl l2)
  | nx s' => exact fun w2 σ2 u2 l2 => h w2 σ2 (u.trans u2 hl) (Nat.le_trans hl l2)
  | bk s' => exact fun w2 σ2 u2 l2 => h w2 σ2 (u.trans u2 hl) (Nat.le_trans hl l2)
  | ct s' => exact fun w2 σ2 u2 l2 => h w2 σ2 (u.trans u2 hl) (Nat.le_trans hl l2)
  | rt sv s' => exact fun v w2 σ2 u2 l2 => h v w2 σ2 (u.trans u2 hl) (Nat.le_trans hl l2)
/-! ### slots -/
theorem ER2.put {v : V} {sv : Sv} {i : Nat} (r : ER2 K F w σ s) (q : VR K F w σ s v sv) : ER2 K F w (σ.set i (some v)) { s with ρ := s.ρ.set i (some sv) } := by
  have at_i : ∀ {sv' : Sv}, (s.ρ.set i (some sv))[i]? = some (some sv') → sv' = sv ∧ (σ.set i (some v))[i]? = some (some v) := by
    intro sv' e
    have hl : i < s.ρ.length := by
      have := (List.getElem?_eq_some_iff.mp e).1
      simpa using this
    rw [List.getElem?_set_self hl] at e
    cases e
    exact ⟨rfl, List.getElem?_set_self (by rw [r.len]; exact hl)⟩
  refine ⟨r.gr, r.ln, r.st, by show (σ.set i (some v)).length = (s.ρ.set i (some sv)).length; rw [List.length_set, List.length_set]; exact r.len, fun j d e => ?_, fun j d e => ?_, fun j e => ?_, fun j n e => ?_, fun j k d e p h1 h2 h3 h4 => ?_⟩
  · have e : (s.ρ.set i (some sv))[j]? = some (some (.dat d)) := e
    by_cases z : i = j
    · subst z
      obtain ⟨rfl, k⟩ := at_i e
      exact ⟨v, k, q⟩
    · rw [List.getElem?_set_ne z] at e ⊢
      exact r.dat j d e
  · have e : (s.ρ.set i (some sv))[j]? = some (some (.own d)) := e
    by_cases z : i = j
    · subst z
      obtain ⟨rfl, k⟩ := at_i e
      obtain ⟨p, o, rfl, h0, h1, h2, h3, h4, _⟩ := q
      exact ⟨p, o, k, h0, h1, h2, h3, h4⟩
    · rw [List.getElem?_set_ne z] at e ⊢
      exact r.own j d e
  · have e : (s.ρ.set i (some sv))[j]? = some (some .exc) := e
    by_cases z : i = j
    · subst z
      obtain ⟨rfl, k⟩ := at_i e
      exact (show False from q).elim
    · rw [List.getElem?_set_ne z] at e ⊢
      exact r.ex j e
  · have e : (s.ρ.set i (some sv))[j]? = some (some (.ref n)) := e
    by_cases z : i = j
    · subst z
      obtain ⟨rfl, k⟩ := at_i e
      obtain ⟨rfl, h⟩ := q
      exact ⟨k, h⟩
    · rw [List.getElem?_set_ne z] at e ⊢
      exact r.rf j n e
  · have h1 : (s.ρ.set i (some sv))[j]? = some (some (.own d)) := h1
    have h2 : (s.ρ.set i (some sv))[k]? = some (some (.own e)) := h2
    have key : ∀ (j k : Nat) d e, i = j → i ≠ k → (s.ρ.set i (some sv))[j]? = some (some (.own d)) → (s.ρ.set i (some sv))[k]? = some (some (.own e)) → (σ.set i (some v))[j]? = some (some (.ref p)) → (σ.set i (some v))[k]? = some (some (.ref p)) → False := by
      intro j k d e z1 z2 h1 h2 h3 h4
      subst z1
      obtain ⟨hs, k1⟩ := at_i h1
      subst hs
      rw [k1] at h3
      cases h3
      obtain ⟨p', o, hv, _, _, _, _, _, hs⟩ := q
      cases hv
      rw [List.getElem?_set_ne z2] at h2 h4
      exact hs k e h2 h4
    by_cases z1 : i = j
    · by_cases z2 : i = k
      · rw [← z1, ← z2]
      · exact (key j k d e z1 z2 h1 h2 h3 h4).elim
    · by_cases z2 : i = k
      · exact (key k j e d z2 z1 h2 h1 h4 h3).elim
      · rw [List.getElem?_set_ne z1] at h1 h3
        rw [List.getElem?_set_ne z2] at h2 h4
        exact r.sep j k d e p h1 h2 h3 h4
theorem ER2.drop {i : Nat} {o : Option V} (r : ER2 K F w σ s) : ER2 K F w (σ.set i o) { s with ρ := s.ρ.set i none } := by
  have ne : ∀ {j : Nat} {sv : Sv}, (s.ρ.set i none)[j]? = some (some sv) → i ≠ j := by
    intro j sv e z
    subst z
    have hl : i < s.ρ.length := by
      have := (List.getElem?_eq_some_iff.mp e).1
      simpa using this
    rw [List.getElem?_set_self hl] at e
    cases e
  refine ⟨r.gr, r.ln, r.st, by show (σ.set i o).length = (s.ρ.set i none).length; rw [List.length_set, List.length_set]; exact r.len, fun j d e => ?_, fun j d e => ?_, fun j e => ?_, fun j n e => ?_, fun j k d e p h1 h2 h3 h4 => ?_⟩
  · have e : (s.ρ.set i none)[j]? = some (some (.dat d)) := e
    have z := ne e
    rw [List.getElem?_set_ne z] at e ⊢
    exact r.dat j d e
  · have e : (s.ρ.set i none)[j]? = some (some (.own d)) := e
    have z := ne e
    rw [List.getElem?_set_ne z] at e ⊢
    exact r.own j d e
  · have e : (s.ρ.set i none)[j]? = some (some .exc) := e
    have z := ne e
    rw [List.getElem?_set_ne z] at e ⊢
    exact r.ex j e
  · have e : (s.ρ.set i none)[j]? = some (some (.ref n)) := e
    have z := ne e
    rw [List.getElem?_set_ne z] at e ⊢
    exact r.rf j n e
  · have h1 : (s.ρ.set i none)[j]? = some (some (.own d)) := h1
    have h2 : (s.ρ.set i none)[k]? = some (some (.own e)) := h2
    have z1 := ne h1
    have z2 := ne h2
    rw [List.getElem?_set_ne z1] at h1 h3
    rw [List.getElem?_set_ne z2] at h2 h4
    exact r.sep j k d e p h1 h2 h3 h4
/-- a slot's own thing is fixed -/
def fix2 (s : S2) (i : Nat) : S2 := match s.ρ[i]? with
  | some (some (.own d)) => { s with ρ := s.ρ.set i (some (.dat d)) }
  | _ => s
theorem ER2.fix {i : Nat} (r : ER2 K F w σ s) : ∃ w', Up w s.C.length w' ∧ w'.H = w.H ∧ (fix2 s i).C = s.C ∧ ER2 K F w' σ (fix2 s i) := by
  unfold fix2
  split
  · rename_i d e
    obtain ⟨p, o, h1, h2, h3, h4, h5, h6⟩ := r.own i d e
    have hl : i < s.ρ.length := (List.getElem?_eq_some_iff.mp e).1
    have r0 : ER2 K F w (σ.set i none) { s with ρ := s.ρ.set i none } := r.drop
    have q : VR K F w (σ.set i none) { s with ρ := s.ρ.set i none } (.ref p) (.own d) := by
      refine ⟨p, o, rfl, h2, h3, h4, h5, h6, fun j c e1 e2 => ?_⟩
      have e1 : (s.ρ.set i none)[j]? = some (some (.own c)) := e1
      by_cases z : i = j
      · subst z
        rw [List.getElem?_set_self hl] at e1
        cases e1
      · rw [List.getElem?_set_ne z] at e1 e2
        exact z (r.sep i j d c p e e1 h1 e2)
    obtain ⟨w', u, eh, em, r', q'⟩ := r0.fixV q rfl
    have r2 := r'.put (i := i) (sv := .dat d) q'
    refine ⟨w', u, eh, rfl, ?_⟩
    have e1 : (σ.set i none).set i (some (V.ref p)) = σ := by
      rw [List.set_set]
      refine List.ext_getElem? fun j => ?_
      by_cases z : i = j
      · subst z
        rw [List.getElem?_set_self (by rw [r.len]; exact hl), h1]
      · rw [List.getElem?_set_ne z]
    have e2 : (s.ρ.set i none).set i (some (Sv.dat d)) = s.ρ.set i (some (.dat d)) := by rw [List.set_set]
    have r2 : ER2 K F w' ((σ.set i none).set i (some (V.ref p))) { s with ρ := (s.ρ.set i none).set i (some (Sv.dat d)) } := r2
    rw [e1, e2] at r2
    exact r2
  · exact ⟨w, .refl _ _, rfl, rfl, r⟩
/-! ### what is owned is changed -/
/-- a thing that is nobody's becomes a field's -/
theorem ER2.take {p : Addr} {o : HO} {d : PyData} (n : Nat) (f : Str) (r : ER2 K F w σ s) (q : VR K F w σ s (.ref p) (.own d)) (hp : w.H p = some o) : ER2 K F { w with Ω := fun a => if a = p then some (.fld n f) else w.Ω a } σ s := by
  obtain ⟨p', o', e, h0, hb, ho, hp', t, hs⟩ := q
  cases e
  rw [hp] at hp'
  cases hp'
  have ne : ∀ a, a ≠ p → (if a = p then some (Owner.fld n f) else w.Ω a) = w.Ω a := fun a z => by rw [if_neg z]
  refine ⟨⟨r.gr.b, r.gr.h, r.gr.l, fun a u h z => ?_, r.gr.k, r.gr.m⟩, r.ln, ⟨r.st.s, fun m c e => ?_, fun a u h => ?_, fun a u h => ?_⟩, r.len, r.dat, fun i c e => ?_, r.ex, r.rf, r.sep⟩
  · show (if a = p then some (Owner.fld n f) else w.Ω a) = none
    rw [ne a (ne_of_none h h0)]
    exact r.gr.o a u h z
  · obtain ⟨dx, fs, h1, h2, h3, h4⟩ := r.st.cell m c e
    refine ⟨dx, fs, ?_, h2, h3, FVs.mono (w := w) (Nat.le_refl _) (Ex.refl w.B) (fun _ _ => rfl) (h := h4) fun p2 f2 o2 q1 q2 => ⟨?_, q2⟩⟩
    · show (if w.μ m = p then some (Owner.fld n f) else w.Ω (w.μ m)) = _
      rw [ne _ fun z => by rw [z, ho] at h1; cases h1]
      exact h1
    · show (if p2 = p then some (Owner.fld n f) else w.Ω p2) = _
      rw [ne _ fun z => by rw [z, ho] at q1; cases q1]
      exact q1
  · have h : (if a = p then some (Owner.fld n f) else w.Ω a) = some u := h
    by_cases z : a = p
    · rw [z]
      exact hb
    · rw [if_neg z] at h
      exact r.st.out a u h
  · have h : (if a = p then some (Owner.fld n f) else w.Ω a) = some u := h
    by_cases z : a = p
    · subst z
      rw [if_pos rfl] at h
      cases h
      exact ⟨o, hp, t.ownO⟩
    · rw [if_neg z] at h
      exact r.st.has a u h
  · obtain ⟨p2, o2, k1, k2, k3, k4, k5, k6⟩ := r.own i c e
    refine ⟨p2, o2, k1, k2, k3, ?_, k5, k6⟩
    show (if p2 = p then some (Owner.fld n f) else w.Ω p2) = none
    rw [ne _ fun z => hs i c e (by rw [k1, z])]
    exact k4
/-! ### fields -/
def putS (f : Str) (v : Sv) : List (Str × Sv) → List (Str × Sv)
  | [] => [(f, v)]
  | (g, u) :: l => if g = f then (g, v) :: l else (g, u) :: putS f v l
theorem FVs.put {n : Nat} {f : Str} {v : V} {sv : Sv} {fs : List (Str × V)} {gs : List (Str × Sv)} (h : FVs K w L n fs gs) (q : FV K w L n f v sv) : FVs K w L n (putF f v fs) (putS f sv gs) := by
  induction h with
  | nil => exact .cons q .nil
  | cons h t ih =>
    rename_i g u su fs gs
    unfold putF putS
    by_cases z : g = f
    · subst z
      rw [if_pos rfl, if_pos rfl]
      exact .cons q t
    · rw [if_neg z, if_neg z]
      exact .cons h ih
theorem FVs.length {n : Nat} {fs : List (Str × V)} {gs : List (Str × Sv)} (h : FVs K w L n fs gs) : fs.length = gs.length := by
  induction h with
  | nil => rfl
  | cons _ _ ih => rw [List.length_cons, List.length_cons, ih]
theorem FVs.get {n : Nat} {f : Str} {sv : Sv} {fs : List (Str × V)} {gs : List (Str × Sv)} (h : FVs K w L n fs gs) (e : gs.lookup f = some sv) : ∃ v, fs.lookup f = some v ∧ FV K w L n f v sv := by
  induction h with
  | nil => cases e
  | cons h t ih =>
    rename_i g u su fs gs
    by_cases z : f = g
    · subst z
      rw [List.lookup_cons_self] at e ⊢
      cases e
      exact ⟨_, rfl, h⟩
    · have : (f == g) = false := by simpa using z
      have e1 : List.lookup f ((g, su) :: gs) = List.lookup f gs := by simp [List.lookup, this]
      have e2 : List.lookup f ((g, u) :: fs) = List.lookup f fs := by simp [List.lookup, this]
      rw [e1] at e
      rw [e2]
      exact ih e
theorem FVs.none {n : Nat} {f : Str} {fs : List (Str × V)} {gs : List (Str × Sv)} (h : FVs K w L n fs gs) (e : gs.lookup f = none) : fs.lookup f = none := by
  induction h with
  | nil => rfl
  | cons h t ih =>
    rename_i g u su fs gs
    by_cases z : f = g
    · subst z
      rw [List.lookup_cons_self] at e
      cases e
    · have : (f == g) = false := by simpa using z
      have e1 : List.lookup f ((g, su) :: gs) = List.lookup f gs := by simp [List.lookup, this]
      have e2 : List.lookup f ((g, u) :: fs) = List.lookup f fs := by simp [List.lookup, this]
      rw [e1] at e
      rw [e2]
      exact ih e
end
end Dl
/-! The layer with objects that change: the rules of statements. -/
/-! The layer with objects that change: the rules of statements, loops, try. -/
namespace Dl
open PySem PySem.Spec PyProof.Rows L2
section
variable {X : Cx} {W : WX} {F : FrX X} {w : Wd} {σ : L2.St} {s : S2} {e a o : Expr} {es : List Expr} {pos : Pos} {st : Stmt} {rest : List Stmt} {f : S2 → M2 Sv} {g h : S2 → O2}
/-- slots fixed ahead of a statement -/
def fixs2 (s : S2) : List Nat → S2
  | [] => s
  | i :: l => fixs2 (fix2 s i) l
theorem ER2.fixs {K : PySem.W.Frag} : ∀ (l : List Nat) {w : Wd} {s : S2}, ER2 K F w σ s → ∃ w', Up w s.C.length w' ∧ w'.H = w.H ∧ (fixs2 s l).C = s.C ∧ ER2 K F w' σ (fixs2 s l)
  | [], w, s, r => ⟨w, .refl _ _, rfl, rfl, r⟩
  | i :: l, w, s, r => by
    obtain ⟨w1, u1, e1, c1, r1⟩ := r.fix (i := i)
    obtain ⟨w2, u2, e2, c2, r2⟩ := ER2.fixs l r1
    exact ⟨w2, u1.trans u2 (by rw [c1]; exact Nat.le_refl _), e2.trans e1, c2.trans c1, r2⟩
/-! ### targets -/
/-! ### what is walked -/
def IP2 (K : PySem.W.Frag) (F : Fr) (W : WX) (σ : L2.St) (w : Wd) (L : Nat) (r : M2 (List PyData)) (Q : It → Hp → Prop) : Prop := match r with
  | .stuck => False
  | .exc x s' => XP2 K F W σ w L x s'
  | .ok ds s' => ∀ J w', Up w L w' → L ≤ s'.C.length → ER2 K F w' σ s' → Wlk K w'.B J ds → Q J w'.H
theorem IP2.bind {K : PySem.W.Frag} {L : Nat} {α : Type} {r : M2 α} {g : α → S2 → M2 (List PyData)} {Q : It → Hp → Prop} (h : IP2 K F W σ w L (r.bind g) Q) : (∃ a s', r = .ok a s' ∧ IP2 K F W σ w L (g a s') Q) ∨ ∃ x s', r = .exc x s' ∧ XP2 K F W σ w L x s' := by
  cases r with
  | stuck => exact h.elim
  | exc x s' => exact .inr ⟨x, s', rfl, h⟩
  | ok a s' => exact .inl ⟨a, s', rfl, h⟩
/-! ### for, while -/
/-! ### raise, try -/
/-! ### isinstance of the exception that the suite holds -/
end
end Dl
/-! The layer with objects that change: defs, methods, makers. -/
namespace Dl
open PySem PySem.Spec PyProof.Rows L2
section
variable {K : PySem.W.Frag} {F : Fr} {w w' : Wd} {σ : L2.St} {s : S2} {L : Nat}
theorem AVs.get {vs : List V} {svs : List Sv} {i : Nat} {sv : Sv} (h : AVs K w L vs svs) (e : svs[i]? = some sv) : ∃ v, vs[i]? = some v ∧ AV K w L v sv := by
  induction h generalizing i with
  | nil => cases e
  | cons h t ih =>
    cases i with
    | zero =>
      simp at e
      subst e
      exact ⟨_, rfl, h⟩
    | succ i =>
      obtain ⟨v, h1, h2⟩ := ih (i := i) (by simpa using e)
      exact ⟨v, by simpa using h1, h2⟩
/-- behind a call -/
theorem ER2.after {C' : Store} (r : ER2 K F w σ s) (c : Chg w s.C.length w') (hl : s.C.length ≤ C'.length) (st : SR K w' C') : ER2 K F w' σ { s with C := C' } := by
  refine ⟨r.gr.trans c r.ln, Nat.le_trans r.ln hl, st, r.len, fun i d e => ?_, fun i d e => ?_, r.ex, fun i n e => ?_, r.sep⟩
  · obtain ⟨v, h1, h2⟩ := r.dat i d e
    exact ⟨v, h1, h2.mono c.b⟩
  · obtain ⟨p, o, h1, h2, h3, h4, h5, h6⟩ := r.own i d e
    exact ⟨p, o, h1, h2, (c.l p o h5 h4 h3).resolve_right (fun ⟨xs, e⟩ => h6.noT xs e), c.o p o h5 h4, c.h p o h5 h4, h6.mono c.b⟩
  · obtain ⟨h1, h2⟩ := r.rf i n e
    exact ⟨by rw [c.m n h2]; exact h1, Nat.lt_of_lt_of_le h2 hl⟩
theorem Chg.up (c : Chg w L w') : Up w L w' := ⟨c.b, c.m⟩
end
/-! ### a body's run is what the def promises -/
/-! ### calls -/
section
variable {X : Cx} {W : WX} {F : FrX X} {w : Wd} {σ : L2.St} {s : S2} {e a o : Expr} {es : List Expr} {pos : Pos} {E : XK}
/-! ### C(..) -/
theorem ER2.new {K : PySem.W.Frag} {F : Fr} {x dx : Addr} {cls : Str} (r : ER2 K F w σ s) (hx : w.H x = none) (hd : w.H dx = none) (hn : dx ≠ x) :
    Chg w s.C.length ⟨w.B, upd (upd w.H dx (.own x)) x (.ins (He.ga K cls) dx []), fun m => if m = s.C.length then x else w.μ m, fun a => if a = x then some (.cell s.C.length) else w.Ω a⟩ ∧
    ER2 K F ⟨w.B, upd (upd w.H dx (.own x)) x (.ins (He.ga K cls) dx []), fun m => if m = s.C.length then x else w.μ m, fun a => if a = x then some (.cell s.C.length) else w.Ω a⟩ σ { s with C := s.C ++ [⟨cls, []⟩] } := by
  have old : ∀ a u, w.H a = some u → upd (upd w.H dx (.own x)) x (.ins (He.ga K cls) dx []) a = some u := fun a u h => by
    rw [upd_ne (ne_of_none h hx), upd_ne (ne_of_none h hd)]
    exact h
  have oo : ∀ a u, w.H a = some u → (if a = x then some (Owner.cell s.C.length) else w.Ω a) = w.Ω a := fun a u h => by rw [if_neg (ne_of_none h hx)]
  have mm : ∀ n, n < s.C.length → (if n = s.C.length then x else w.μ n) = w.μ n := fun n h => by rw [if_neg (Nat.ne_of_lt h)]
  have c : Chg w s.C.length ⟨w.B, upd (upd w.H dx (.own x)) x (.ins (He.ga K cls) dx []), fun m => if m = s.C.length then x else w.μ m, fun a => if a = x then some (.cell s.C.length) else w.Ω a⟩ :=
    ⟨.refl _, fun a u h _ => old a u h, fun a u h _ b => .inl b, fun a u h n => (oo a u h).trans n, fun a u h => ⟨u, old a u h⟩, mm⟩
  refine ⟨c, r.after c (by rw [List.length_append]; exact Nat.le_add_right _ _) ⟨fun a u h => old a u (r.st.s a u h), fun n c hc => ?_, fun a u h => ?_, fun a u h => ?_⟩⟩
  · by_cases hl : n < s.C.length
    · rw [List.getElem?_append_left hl] at hc
      obtain ⟨dx2, fs, h1, h2, h3, h4⟩ := r.st.cell n c hc
      refine ⟨dx2, fs, ?_, ?_, h3, ?_⟩
      · show (if (if n = s.C.length then x else w.μ n) = x then some (Owner.cell s.C.length) else w.Ω (if n = s.C.length then x else w.μ n)) = _
        rw [mm n hl, oo _ _ h2]
        exact h1
      · show upd (upd w.H dx (.own x)) x (.ins (He.ga K cls) dx []) (if n = s.C.length then x else w.μ n) = _
        rw [mm n hl]
        exact old _ _ h2
      · exact FVs.mono (w := w) (by rw [List.length_append]; exact Nat.le_add_right _ _) (Ex.refl w.B) mm (h := h4) fun p f o q1 q2 => ⟨by show (if p = x then some (Owner.cell s.C.length) else w.Ω p) = _; rw [oo _ _ q2]; exact q1, old _ _ q2⟩
    · rw [List.getElem?_append_right (Nat.le_of_not_lt hl)] at hc
      have e : n - s.C.length = 0 := by
        have := (List.getElem?_eq_some_iff.mp hc).1
        simpa using this
      rw [e] at hc
      cases hc
      have en : n = s.C.length := by omega
      subst en
      refine ⟨dx, [], ?_, ?_, List.nodup_nil, .nil⟩
      · show (if (if s.C.length = s.C.length then x else w.μ s.C.length) = x then some (Owner.cell s.C.length) else _) = _
        rw [if_pos rfl, if_pos rfl]
      · show upd (upd w.H dx (.own x)) x (.ins (He.ga K cls) dx []) (if s.C.length = s.C.length then x else w.μ s.C.length) = _
        rw [if_pos rfl]
        exact upd_same
  · have h : (if a = x then some (Owner.cell s.C.length) else w.Ω a) = some u := h
    by_cases z : a = x
    · rw [z]
      exact r.st.s.back hx
    · rw [if_neg z] at h
      exact r.st.out a u h
  · have h : (if a = x then some (Owner.cell s.C.length) else w.Ω a) = some u := h
    by_cases z : a = x
    · subst z
      rw [if_pos rfl] at h
      cases h
      exact ⟨_, upd_same, trivial⟩
    · rw [if_neg z] at h
      obtain ⟨u', h1, h2⟩ := r.st.has a u h
      exact ⟨u', old a u' h1, h2⟩
/-! ### C(..), standing still from then on -/
end
/-! ### the law's own def -/
end Dl
/-! The data layer: sorted of a dict with tuples for keys; extend. -/
/-! The data layer: dicts of the module's top with texts for keys; the hook that reads them. -/
namespace Dl
open PySem PySem.Spec PyProof.Rows L2
/-! ### the hook -/
abbrev AlX : Type := He.AlT × Bool
def obsX (n : Nat) (fa : List He.Fa) (fn : List He.DefD) (ts : List He.Tab) (ex : PySem.W.Frag → Bool) (g : Addr → Option Obj) : AlX := (He.obsTG n fa fn ts g, ex (He.frG g (He.asD g n)))
def hookX (n : Nat) (fa : List He.Fa) (fn : List He.DefD) (ts : List He.Tab) (ex : PySem.W.Frag → Bool) : PySem.W.Hook where
  α := AlX
  obs s := obsX n fa fn ts ex s.heap.get?
  val w := (He.valT fn ts w, true)
  says w h := ∃ K : PySem.W.Frag, K.In h ∧ He.SaysT fa fn ts w K ∧ ex K = true
  of _ _ e := ⟨_, He.frG_in, congrArg (fun z : AlX => z.1) e, congrArg (fun z : AlX => z.2) e⟩
  keeps := fun _ _ _ y k => y.elim fun K z => ⟨K, PySem.W.Frag.In.keeps z.1 k, z.2⟩
theorem obsX_eq {n : Nat} {fa : List He.Fa} {fn : List He.DefD} {ts : List He.Tab} {ex : PySem.W.Frag → Bool} {g : Addr → Option Obj} {s : Shared} (h : ∀ a, g a = s.heap.get? a) : obsX n fa fn ts ex g = (hookX n fa fn ts ex).obs s := by
  rw [show g = s.heap.get? from funext h]
  rfl
end Dl
/-! Quiet statements: what stands in the heap stays. A loop over a list of one's own, not fixed. -/
namespace Dl
open PySem PySem.Spec PyProof.Rows L2
def SQ (K : PySem.W.Frag) (E : XK) (B0 H0 B H : Hp) (D : Ends) (o : O) : Prop := match o with
  | .stuck => False
  | .exc x => ∀ H', Ex H0 H' → E (.ref (He.ga K x)) none H'
  | .nx ρ => ∀ B' H' σ', Ex B B' → Ex H H' → ER K B0 H0 B' H' σ' ρ → D.nx σ' H'
  | .bk ρ => ∀ B' H' σ', Ex B B' → Ex H H' → ER K B0 H0 B' H' σ' ρ → D.bk σ' H'
  | .ct ρ => ∀ B' H' σ', Ex B B' → Ex H H' → ER K B0 H0 B' H' σ' ρ → D.ct σ' H'
  | .rt sl => ∀ v B' H', Gr B0 H0 B' H' → Res K H0 B' H' v sl → D.rt v H'
theorem SQ.grow {K : PySem.W.Frag} {E : XK} {B0 H0 B B1 H H1 : Hp} {D : Ends} {o : O} (e : Ex B B1) (e2 : Ex H H1) (h : SQ K E B0 H0 B H D o) : SQ K E B0 H0 B1 H1 D o := by
  cases o with
  | stuck => exact h
  | exc x => exact h
  | nx ρ => exact fun B2 H2 σ2 e3 e4 r => h B2 H2 σ2 (e.trans e3) (e2.trans e4) r
  | bk ρ => exact fun B2 H2 σ2 e3 e4 r => h B2 H2 σ2 (e.trans e3) (e2.trans e4) r
  | ct ρ => exact fun B2 H2 σ2 e3 e4 r => h B2 H2 σ2 (e.trans e3) (e2.trans e4) r
  | rt sl => exact h
end Dl
/-! sum of a list of whole numbers. -/
namespace Dl
open PySem PySem.Spec PyProof.Rows L2
section
variable {X : Cx} {E : XK}
def intsOf : List PyData → Option (List Int)
  | [] => some []
  | .int i :: ds => (intsOf ds).map (i :: ·)
  | _ => none
theorem intsOf_map : ∀ {ds : List PyData} {ns : List Int}, intsOf ds = some ns → ds = ns.map PyData.int
  | [], ns, h => by
    cases h
    rfl
  | d :: ds, ns, h => by
    unfold intsOf at h
    split at h
    · rename_i e
      cases e
    · rename_i i ds' e
      cases e
      obtain ⟨ms, h1, rfl⟩ := Option.map_eq_some_iff.mp h
      rw [List.map_cons, ← intsOf_map h1]
    · cases h
theorem intsOf_ints : ∀ ns : List Int, intsOf (ns.map PyData.int) = some ns
  | [] => rfl
  | n :: ns => by
    rw [List.map_cons, intsOf, intsOf_ints ns]
    rfl
def gSum (ds : List PyData) : M Sl := match ds with
  | [.list l] => (match intsOf l with
    | some ns => retI ns.sum
    | none => .stuck)
  | _ => .stuck
theorem gSum_ints (ns : List Int) : gSum [.list (ns.map PyData.int)] = retI ns.sum := by
  unfold gSum
  simp only [intsOf_ints]
end
end Dl
/-! Dicts with whole numbers or texts for keys: {}, d[k], d[k] = v, k in d; a dict told anew from another one. -/
namespace Dl
open PySem PySem.Spec PyProof.Rows L2
section
variable {X : Cx} {E : XK} {a b c e : Expr} {fa fb : Env → M Sl} {pos pos' : Pos}
def entsK (kvs : List (Key × V)) (vs : List PyData) : List (PyData × PyData) := (kvs.map fun p => keyD p.1).zip vs
def isKK (k : Key) (p : PyData × PyData) : Bool := decide (keyV p.1 = some k)
def getK (es : List (PyData × PyData)) (k : Key) : Option PyData := (es.find? (isKK k)).map (·.2)
def putD (es : List (PyData × PyData)) (k : Key) (d : PyData) : List (PyData × PyData) := if es.any (isKK k) = true then es.map (fun p => if isKK k p = true then (p.1, d) else p) else es ++ [(keyD k, d)]
theorem keyV_keyD (k : Key) : keyV (keyD k) = some k := by cases k <;> rfl
theorem isKK_ent (j k : Key) (d : PyData) : isKK k (keyD j, d) = decide (j = k) := by
  unfold isKK
  simp only [keyV_keyD, Option.some.injEq]
theorem entK_get {K : PySem.W.Frag} {H : Hp} (k : Key) : ∀ (kvs : List (Key × V)) (vs : List PyData), RA K H (kvs.map (·.2)) vs → (valV kvs k = none ∧ getK (entsK kvs vs) k = none) ∨ ∃ v d, valV kvs k = some v ∧ getK (entsK kvs vs) k = some d ∧ R K H v d
  | [], _, .nil => .inl ⟨rfl, rfl⟩
  | (j, v) :: kvs, d :: vs, .cons r q => by
    by_cases h : j = k
    · refine .inr ⟨v, d, valV_pos h, ?_, r⟩
      unfold getK entsK
      rw [List.map_cons, List.zip_cons_cons, List.find?_cons_of_pos (by rw [isKK_ent]; exact decide_eq_true h)]
      rfl
    · have e : getK (entsK ((j, v) :: kvs) (d :: vs)) k = getK (entsK kvs vs) k := by
        unfold getK entsK
        rw [List.map_cons, List.zip_cons_cons, List.find?_cons_of_neg (by rw [isKK_ent]; simpa using h)]
      rw [valV_neg h, e]
      exact entK_get k kvs vs q
theorem entK_any (k : Key) : ∀ (kvs : List (Key × V)) (vs : List PyData), kvs.length = vs.length → (kvs.any fun kv => decide (kv.1 = k)) = (entsK kvs vs).any (isKK k)
  | [], [], _ => rfl
  | (j, v) :: kvs, d :: vs, h => by
    unfold entsK
    rw [List.map_cons, List.zip_cons_cons, List.any_cons, List.any_cons, isKK_ent, entK_any k kvs vs (by simpa using h)]
    rfl
theorem RA.putK {K : PySem.W.Frag} {H : Hp} {v : V} {d : PyData} (k : Key) (rv : R K H v d) : ∀ (kvs : List (Key × V)) (vs : List PyData), RA K H (kvs.map (·.2)) vs →
    ∃ ws, RA K H ((kvs.map fun kv => if kv.1 = k then (kv.1, v) else kv).map (·.2)) ws ∧ entsK (kvs.map fun kv => if kv.1 = k then (kv.1, v) else kv) ws = (entsK kvs vs).map fun p => if isKK k p = true then (p.1, d) else p
  | [], _, .nil => ⟨[], .nil, rfl⟩
  | (j, w) :: kvs, e :: vs, .cons r q => by
    obtain ⟨ws, h1, h2⟩ := RA.putK k rv kvs vs q
    unfold entsK at h2 ⊢
    by_cases h : j = k
    · refine ⟨d :: ws, ?_, ?_⟩
      · simp only [List.map_cons, h, if_true]
        exact .cons rv h1
      · simp only [List.map_cons, List.zip_cons_cons, isKK_ent, h, decide_true, if_true, h2]
    · refine ⟨e :: ws, ?_, ?_⟩
      · simp only [List.map_cons, h, if_false]
        exact .cons r h1
      · simp only [List.map_cons, List.zip_cons_cons, isKK_ent, h, decide_false, if_false, Bool.false_eq_true, h2]
theorem entK_put {K : PySem.W.Frag} {H : Hp} {v : V} {d : PyData} {k : Key} {kvs : List (Key × V)} {vs : List PyData} (rv : R K H v d) (q : RA K H (kvs.map (·.2)) vs) : ∃ ws, RA K H ((L2.putK kvs k v).map (·.2)) ws ∧ entsK (L2.putK kvs k v) ws = putD (entsK kvs vs) k d := by
  have hl : kvs.length = vs.length := by simpa using q.length
  unfold L2.putK putD
  rw [entK_any k kvs vs hl]
  by_cases h : (entsK kvs vs).any (isKK k) = true
  · rw [if_pos h, if_pos h]
    exact RA.putK k rv kvs vs q
  · rw [if_neg h, if_neg h]
    refine ⟨vs ++ [d], by rw [List.map_append]; exact q.append (.cons rv .nil), ?_⟩
    unfold entsK
    rw [List.map_append, List.zip_append (by simpa using hl)]
    rfl
/-- a dict of such keys, told by its data -/
def isDK (es : List (PyData × PyData)) : Bool := match es with
  | [] => true
  | (.int _, _) :: _ => true
  | (.str _, _) :: _ => true
  | _ => false
theorem entK_inv {K : PySem.W.Frag} {H : Hp} {v : V} {es : List (PyData × PyData)} (r : R K H v (.dict es)) (h : isDK es = true) : ∃ a kvs vs, v = .ref a ∧ H a = some (.dK kvs) ∧ RA K H (kvs.map (·.2)) vs ∧ es = entsK kvs vs := by
  generalize hd : PyData.dict es = d at r
  cases r with
  | dK h r =>
    injection hd with hd
    exact ⟨_, _, _, rfl, h, r, hd⟩
  | dT h r =>
    injection hd with hd
    subst hd
    cases h
  | tupF h r =>
    injection hd with hd
    subst hd
    cases h
  | ins h r =>
    injection hd with hd
    subst hd
    cases h
  | scr h =>
    injection hd with hd
    subst hd
    cases h
  | _ => cases hd
theorem topK_inv {K : PySem.W.Frag} {H : Hp} {o : HO} {es : List (PyData × PyData)} (r : Top K H o (.dict es)) (h : isDK es = true) : ∃ kvs vs, o = .dK kvs ∧ RA K H (kvs.map (·.2)) vs ∧ es = entsK kvs vs := by
  generalize hd : PyData.dict es = d at r
  cases r with
  | lst _ => cases hd
  | dK r =>
    injection hd with hd
    exact ⟨_, _, rfl, r, hd⟩
  | dT r =>
    injection hd with hd
    subst hd
    cases h
/-! ### {} -/
def eNewK : Env → M Sl := fun _ => .ok (.own (.dict []))
theorem de_newK : DE X E (.Dict [] [] pos) eNewK := ⟨_, pe_dnewK, fun B0 H0 B H σ ρ Q re q => fun p hp => EPost.own re.gr.s hp (.dK (kvs := []) (vs := []) .nil) q⟩
/-! ### d[k] -/
/-! ### d[k] = e -/
def oPutK (i : Nat) (fe fi : Env → M Sl) : Env → O := fun ρ => oOf (fe ρ) fun x => match ρ[i]? with
  | some (some (.own (.dict es))) => if isDK es = true then oOf (fi ρ) fun y => (match keyV y.d with
    | some k => if big (es.length + 1) = true then .nx (ρ.set i (some (.own (.dict (putD es k x.d))))) else .stuck
    | none => .stuck) else .stuck
  | _ => .stuck
theorem ds_putK {i : Nat} {tpos : Pos} (hu : X.A.units + 1 < cLine) (h : DE X E e fa) (ho : PE X a (tVar i)) (hi : DE X E b fb) (hs : swapsWithSole [Expr.Subscript a b tpos] e pos.line X.env = pure false := by rfl) (hw : swappedStores [Expr.Subscript a b tpos] e X.env = pure none := by rfl)
    (h1 : (assignEach [Expr.Subscript a b tpos] X.env).map (·.2) = [assign (Expr.Subscript a b tpos) X.env] := by rfl)
    (hg : ∀ v, assign (.Subscript a b tpos) X.env v = (do
      let ov ← holding [v] (eval a X.env)
      let iv ← holding [v, ov] (eval b X.env)
      standAt tpos
      holding [v, ov, iv] (setItem ov iv v)
      release [v, ov, iv] []) := by intro _; rfl) : DS X E (.Assign [.Subscript a b tpos] e pos) (oPutK i fa fb) := by
  obtain ⟨t, p, h⟩ := h
  obtain ⟨ti, pi, hi⟩ := hi
  refine ⟨_, ps_asg p (pg_sub ho pi (set_dict hu) hg) hs hw h1, fun B0 H0 B H σ ρ D re q => ?_⟩
  refine h B0 H0 B H σ ρ _ re (epost_of re q fun sl _ q v B1 H1 g1 r => ?_)
  obtain ⟨B2, g2, r2⟩ := r.fix g1
  split at q
  · rename_i es hl
    split at q
    · rename_i hdk
      obtain ⟨p1, o, k1, k2, k3, k4, k5⟩ := re.own i _ hl
      refine ⟨_, k1, ?_⟩
      refine hi B0 H0 B2 H1 σ ρ _ (re.grow g2) (epost_of (re.grow g2) (SPost.grow g2.b q) fun sl2 _ q v2 B3 H3 g3 r3 => ?_)
      obtain ⟨B4, g4, r4⟩ := r3.fix g3
      split at q
      · rename_i k hk
        split at q
        · rename_i hb
          have g24 := g2.trans g4
          have hy := keyV_ok (r4.mono g4.s) hk
          have hp1 := g24.h p1 _ k4
          obtain ⟨kvs, vs, rfl, ra, rfl⟩ := topK_inv k5 hdk
          have nb : B4 p1 = none := g24.lm k4 k3 (fun _ h => nomatch h)
          obtain ⟨ws, w1, w2⟩ := entK_put (k := k) (r2.mono g4.b) (ra.mono g24.b)
          have hlen : kvs.length < sizeLine := by
            have e1 := ra.length
            have e2 := big_ok hb
            rw [List.length_map] at e1
            unfold entsK at e2
            rw [List.length_zip, List.length_map, e1, Nat.min_self] at e2
            rw [e1]
            omega
          refine ⟨p1, _, rfl, .inl ⟨kvs, k, hp1, hy, hlen, rfl⟩, ?_⟩
          refine q B4 _ σ g4.b ?_
          have hT : Top X.K B4 (.dK (L2.putK kvs k v)) (.dict (entsK (L2.putK kvs k v) ws)) := .dK w1
          rw [w2] at hT
          exact (re.grow g24).own_put hl k1 hp1 nb k2 hT
        · exact q.elim
      · exact q.elim
    · exact q.elim
  · exact q.elim
/-! ### k in d -/
def rInK (neg : Bool) : R2 := fun y x H Q => ∃ a o, x = .ref a ∧ DGet H a y o ∧ Q (.bl (if neg then !o.isSome else o.isSome)) H
theorem op_notInK (hu : X.A.units + 1 < cLine) : OpR X (compareOp .NotIn) (rInK true) := by
  intro pins s σ H x y v u Q I rx ry h
  obtain ⟨a, o, rfl, g, q⟩ := h
  cases (show u = Value.ref a from ry)
  exact d_notIn hu I g rx fun s' I' => ⟨.bl (!o.isSome), H, I', rfl, q⟩
def gInKB (d e : PyData) : M Bool := match e with
  | .dict es => if isDK es = true then (match keyV d with
    | some k => .ok (getK es k).isSome
    | none => .stuck) else .stuck
  | _ => .stuck
def gNotInK (d e : PyData) : M Sl := (gInKB d e).bind fun b => retB (!b)
theorem inK_cases {K : PySem.W.Frag} {neg : Bool} {x y : V} {d e : PyData} {B H : Hp} {Q : VK} {b : Bool} (ex : Ex B H) (rx : R K B x d) (ry : R K B y e) (h : gInKB d e = .ok b) (q : Q (.bl (if neg then !b else b)) H) : rInK neg x y H Q := by
  unfold gInKB at h
  split at h
  · split at h
    · rename_i hdk
      split at h
      · rename_i k hk
        cases h
        have hy := keyV_ok rx hk
        obtain ⟨a, kvs, vs, rfl, ha, ra, rfl⟩ := entK_inv ry hdk
        refine ⟨a, valV kvs k, rfl, by rw [hy]; exact DGet.k (ex _ _ ha), ?_⟩
        rcases entK_get k kvs vs ra with ⟨h1, h2⟩ | ⟨w, d', h1, h2, r⟩
        · rw [h2] at q
          rw [h1]
          exact q
        · rw [h2] at q
          rw [h1]
          exact q
      · cases h
    · cases h
  · cases h
theorem inKB_ne {d e : PyData} {x : Str} : gInKB d e ≠ .exc x := by
  unfold gInKB
  intro h
  split at h
  · split at h
    · split at h <;> cases h
    · cases h
  · cases h
theorem od_notInK : OpD X E (rInK true) gNotInK := by
  intro x y d e B H Q ex rx ry q
  unfold gNotInK at q
  cases hb : gInKB d e with
  | stuck => rw [hb] at q; exact q.elim
  | exc z => exact (inKB_ne hb).elim
  | ok b =>
    rw [hb] at q
    exact inK_cases ex rx ry hb (q.val ex (.bl _))
/-! ### for x in d: y[x] = c - d[x] -/
end
end Dl
/-! dict(..) of a list of pairs. -/
/-! Dicts with tuple keys: equal. -/
namespace PySem.W
open Lean Elab Tactic Meta PySem PySem.Calls PyProof.Rows PyProof.V PySem.Spec
end PySem.W
/-! x += e; sorted(set(rows)); reversed(range(n)); l.index(x). -/
namespace Dl
open PySem PySem.Spec PyProof.Rows L2
section
variable {X : Cx} {E : XK} {a b e : Expr} {fa fb : Env → M Sl} {pos : Pos}
/-! ### x += e -/
def oAug (i : Nat) (fa : Env → M Sl) : Env → O := fun ρ => match ρ[i]? with
  | some (some (.dat (.int a))) => oOf (fa ρ) fun sl => (match sl.d with
    | .int b => .nx (ρ.set i (some (.dat (.int (a + b)))))
    | _ => .stuck)
  | _ => .stuck
theorem ds_aug {i : Nat} {x : Str} {pos' : Pos} (hN : X.N.Nodup) (hi : X.N[i]? = some x) (hx : Loc X.env.scope x) (h : DE X E e fa) (hf : X.fn x = true ∨ X.env.scope.names.lookup x = some .local := by first | exact .inl rfl | exact .inr rfl | assumption) :
    DS X E (.AugAssign (.Name x pos') .Add e pos) (oAug i fa) := by
  obtain ⟨t, p, h⟩ := h
  refine ⟨_, ps_aug hN hi hx p ip_add hf, fun B0 H0 B H σ ρ D re q => ?_⟩
  unfold oAug at q
  split at q
  · rename_i n hn
    obtain ⟨v, h1, h2⟩ := re.dat i _ hn
    cases h2
    refine ⟨_, h1, ?_⟩
    refine h B0 H0 B H σ ρ _ re (epost_of re q fun sl hs q v B1 H1 g r => ?_)
    obtain ⟨B2, g2, r2⟩ := r.fix g
    split at q
    · rename_i m hm
      rw [hm] at r2
      cases r2
      exact ⟨_, _, rfl, rfl, q B2 H1 _ g2.b (re.put g2 (.int _))⟩
    · exact q.elim
  · exact q.elim
/-! ### rows -/
def intRow (d : PyData) : Option (List Int) := match d with
  | .tuple ds => intsOf ds
  | _ => none
def intRows : List PyData → Option (List (List Int))
  | [] => some []
  | d :: ds => (intRow d).bind fun r => (intRows ds).map (r :: ·)
theorem intRows_map : ∀ rs : List (List Int), intRows (rs.map fun r => PyData.tuple (r.map PyData.int)) = some rs
  | [] => rfl
  | r :: rs => by
    rw [List.map_cons, intRows]
    show (intsOf (r.map PyData.int)).bind _ = _
    rw [intsOf_ints, Option.bind_some, intRows_map rs]
    rfl
theorem ra_rows {K : PySem.W.Frag} {B : Hp} : ∀ {xs : List V} {l : List PyData} {rs : List (List Int)}, RA K B xs l → intRows l = some rs →
    ∃ ks : List (Addr × List Int), xs = ks.map (fun p => V.ref p.1) ∧ ks.map (·.2) = rs ∧ ∀ p ∈ ks, B p.1 = some (.tup (p.2.map V.int))
  | _, _, _, .nil, h => by
    cases h
    exact ⟨[], rfl, rfl, fun p hp => by cases hp⟩
  | _, _, rs, .cons (v := v) (d := d) (ds := ds) r t, h => by
    unfold intRows at h
    obtain ⟨ns, hn, h⟩ := Option.bind_eq_some_iff.mp h
    obtain ⟨rs', hr, rfl⟩ := Option.map_eq_some_iff.mp h
    obtain ⟨ks, e1, e2, e3⟩ := ra_rows t hr
    unfold intRow at hn
    split at hn
    · rename_i ds'
      have := intsOf_map hn
      subst this
      cases r with
      | tup hh r2 =>
        rename_i ad xs2
        have e := r2.ints
        subst e
        refine ⟨(ad, ns) :: ks, by rw [e1]; rfl, by rw [List.map_cons, e2], fun p hp => ?_⟩
        rcases List.mem_cons.mp hp with e | hp
        · rw [e]
          exact hh
        · exact e3 p hp
    · cases hn
/-- rows in order -/
def ltL : List Int → List Int → Bool
  | _, [] => false
  | [], _ :: _ => true
  | x :: xs, y :: ys => if x = y then ltL xs ys else decide (x < y)
theorem ltL_irr : ∀ a : List Int, ltL a a = false
  | [] => rfl
  | x :: xs => by
    rw [ltL, if_pos rfl]
    exact ltL_irr xs
theorem ltL_tri : ∀ a b : List Int, ltL a b = true ∨ a = b ∨ ltL b a = true
  | [], [] => .inr (.inl rfl)
  | [], _ :: _ => .inl rfl
  | _ :: _, [] => .inr (.inr rfl)
  | x :: xs, y :: ys => by
    rw [ltL, ltL]
    by_cases h : x = y
    · subst h
      rw [if_pos rfl, if_pos rfl]
      rcases ltL_tri xs ys with h | h | h
      · exact .inl h
      · exact .inr (.inl (by rw [h]))
      · exact .inr (.inr h)
    · rw [if_neg h, if_neg (Ne.symm h)]
      simp only [decide_eq_true_eq]
      omega
theorem ltL_nil (a : List Int) : ltL a [] = false := by cases a <;> rfl
theorem ltL_trans : ∀ {a b c : List Int}, ltL a b = true → ltL b c = true → ltL a c = true
  | a, [], _, h, _ => by
    rw [ltL_nil] at h
    cases h
  | _, b :: bs, [], _, h => by
    rw [ltL_nil] at h
    cases h
  | [], _ :: _, _ :: _, _, _ => rfl
  | x :: xs, y :: ys, z :: zs, h1, h2 => by
    rw [ltL] at h1 h2 ⊢
    by_cases e1 : x = y
    · subst e1
      rw [if_pos rfl] at h1
      by_cases e2 : x = z
      · subst e2
        rw [if_pos rfl] at h2 ⊢
        exact ltL_trans h1 h2
      · rw [if_neg e2] at h2 ⊢
        exact h2
    · rw [if_neg e1, decide_eq_true_eq] at h1
      by_cases e2 : y = z
      · subst e2
        rw [if_neg e1, decide_eq_true_eq]
        exact h1
      · rw [if_neg e2, decide_eq_true_eq] at h2
        rw [if_neg (by omega), decide_eq_true_eq]
        omega
theorem ltL_asym {a b : List Int} (h : ltL a b = true) : ltL b a = false := by
  cases e : ltL b a with
  | false => rfl
  | true => rw [← ltL_irr a, ltL_trans h e]
theorem code_ltL {B : Int} : ∀ {a b : List Int}, a.length = b.length → TS.Bd B a → TS.Bd B b → TS.code B a ≤ TS.code B b → ltL b a = false
  | [], [], _, _, _, _ => rfl
  | x :: xs, y :: ys, hl0, ha, hb, h => by
    have hl : xs.length = ys.length := by simpa using hl0
    rw [ltL]
    by_cases e : y = x
    · rw [if_pos e]
      refine code_ltL hl ha.tail hb.tail ?_
      have := TS.code_same (B := B) (d := x) (r := ys) (q := xs) hl.symm
      refine Int.not_lt.mp fun z => ?_
      have := this.mpr z
      rw [e] at h
      omega
    · rw [if_neg e, decide_eq_false_iff_not]
      intro z
      have := TS.code_lt (B := B) hl.symm hb.tail ha.tail z
      omega
def uniq : List (List Int) → List (List Int)
  | [] => []
  | a :: l => if a ∈ l then uniq l else a :: uniq l
theorem mem_uniq {r : List Int} : ∀ {l : List (List Int)}, r ∈ uniq l ↔ r ∈ l
  | [] => Iff.rfl
  | a :: l => by
    unfold uniq
    by_cases h : a ∈ l
    · rw [if_pos h, mem_uniq, List.mem_cons]
      exact ⟨.inr, fun z => z.elim (fun e => e ▸ h) id⟩
    · rw [if_neg h, List.mem_cons, List.mem_cons, mem_uniq]
theorem nodup_uniq : ∀ l : List (List Int), (uniq l).Nodup
  | [] => List.nodup_nil
  | a :: l => by
    unfold uniq
    by_cases h : a ∈ l
    · rw [if_pos h]
      exact nodup_uniq l
    · rw [if_neg h, List.nodup_cons]
      exact ⟨fun z => h (mem_uniq.mp z), nodup_uniq l⟩
/-- the rows, each once, rising -/
def srtSet (rs : List (List Int)) : List (List Int) := (uniq rs).mergeSort fun a b => !ltL b a
theorem leL_trans (a b c : List Int) (h1 : (!ltL b a) = true) (h2 : (!ltL c b) = true) : (!ltL c a) = true := by
  simp only [Bool.not_eq_true'] at h1 h2 ⊢
  cases e : ltL c a with
  | false => rfl
  | true =>
    rcases ltL_tri a b with h | h | h
    · rw [ltL_trans e h] at h2
      cases h2
    · subst h
      rw [e] at h2
      cases h2
    · rw [h] at h1
      cases h1
theorem leL_total (a b : List Int) : (!ltL b a || !ltL a b) = true := by
  cases e : ltL b a with
  | false => rfl
  | true => rw [ltL_asym e]; rfl
theorem srtSet_mem {rs : List (List Int)} {r : List Int} : r ∈ srtSet rs ↔ r ∈ rs := by
  unfold srtSet
  rw [(List.mergeSort_perm _ _).mem_iff, mem_uniq]
theorem srtSet_nodup (rs : List (List Int)) : (srtSet rs).Nodup := (List.mergeSort_perm _ _).nodup_iff.mpr (nodup_uniq rs)
theorem srtSet_up (rs : List (List Int)) : (srtSet rs).Pairwise fun a b => ltL a b = true := by
  have h1 := List.pairwise_mergeSort leL_trans leL_total (uniq rs)
  have h2 := srtSet_nodup rs
  refine (List.Pairwise.and h1 h2).imp fun {a b} h => ?_
  have k : ltL b a = false := by simpa using h.1
  rcases ltL_tri a b with z | z | z
  · exact z
  · exact absurd z h.2
  · rw [z] at k
    cases k
theorem srtSet_uniq {rs l : List (List Int)} (up : l.Pairwise fun a b => ltL b a = false) (nd : l.Nodup) (h : ∀ r, r ∈ l ↔ r ∈ rs) : l = srtSet rs := by
  have pm : l.Perm (srtSet rs) := (List.perm_ext_iff_of_nodup nd (srtSet_nodup rs)).mpr fun r => by rw [h, srtSet_mem]
  refine pm.eq_of_pairwise (le := fun a b => ltL b a = false) (fun a b _ _ h1 h2 => ?_) up ((srtSet_up rs).imp fun h => ltL_asym h)
  rcases ltL_tri a b with z | z | z
  · rw [z] at h2
    cases h2
  · exact z
  · rw [z] at h1
    cases h1
def rowOk (d : Nat) (r : List Int) : Bool := decide (r.length = d) && r.all fun x => decide (0 ≤ x) && decide (x < 1000)
def rowsOk (rs : List (List Int)) : Bool := decide (rs.length < 64) && (decide (1 ≤ (rs.headD [0]).length) && rs.all (rowOk (rs.headD [0]).length))
def gSrtSet (d : PyData) : M Sl := match d with
  | .list l => (match intRows l with
    | some rs => if rowsOk rs = true then .ok (.own (.list ((srtSet rs).map fun r => .tuple (r.map PyData.int)))) else .stuck
    | none => .stuck)
  | _ => .stuck
theorem ra_intsV {K : PySem.W.Frag} {B : Hp} : ∀ ns : List Int, RA K B (ns.map V.int) (ns.map PyData.int)
  | [] => .nil
  | n :: ns => .cons (.int n) (ra_intsV ns)
theorem ra_tups {K : PySem.W.Frag} {B : Hp} : ∀ {ks : List (Addr × List Int)}, (∀ p ∈ ks, B p.1 = some (.tup (p.2.map V.int))) → RA K B (ks.map fun p => V.ref p.1) ((ks.map (·.2)).map fun r => PyData.tuple (r.map PyData.int))
  | [], _ => .nil
  | p :: ks, h => .cons (.tup (h p (List.mem_cons_self ..)) (ra_intsV _)) (ra_tups fun q hq => h q (List.mem_cons_of_mem _ hq))
theorem de_srtSet {p p2 pos2 : Pos} (hc : X.calm = true) (hu : X.A.units + 64 < cLine) (hg : Gl X "sorted") (hm : X.mg "sorted" = none) (hg2 : Gl X "set") (hm2 : X.mg "set" = none) (h : DE X E e fa)
    (s1 : starEach [e] X.env = (false, eval e X.env) :: starEach [] X.env := by rfl) (s2 : starEach [.Call (.Name "set" p2) [e] [] pos2] X.env = (false, eval (.Call (.Name "set" p2) [e] [] pos2) X.env) :: starEach [] X.env := by rfl)
    (b1 : (backTo pos2 (starEach ([] : List Expr) X.env)).any (·.1) = false := by rfl) (b2 : (backTo pos (starEach ([] : List Expr) X.env)).any (·.1) = false := by rfl) :
    DE X E (.Call (.Name "sorted" p) [.Call (.Name "set" p2) [e] [] pos2] [] pos) (eUn gSrtSet fa) := by
  obtain ⟨t, pt, h⟩ := h
  refine ⟨_, pe_callB (cr_sortedT hc) hg hm (by decide +kernel) (pa_cons (pe_callTy (cr_setOfT hc hu) hg2 hm2 (by decide +kernel) (pa_cons pt pa_nil s1) (by decide) (by decide) s1 b1) pa_nil s2) (by decide) (by decide) s2 b2, fun B0 H0 B H σ ρ Q re q => ?_⟩
  refine run_e h re ?_
  rcases q.bind with ⟨x, e1, q⟩ | ⟨x, e1, q⟩
  · refine .inl ⟨x, e1, fun v B1 H1 g1 r1 => ?_⟩
    have q := EPost.grow g1 q
    unfold gSrtSet at q
    split at q
    · rename_i l hl
      split at q
      · rename_i rs hrs
        split at q
        · rename_i hok
          rw [hl] at r1
          cases r1 with
          | lst hh ra =>
            obtain ⟨ks, k1, k2, k3⟩ := ra_rows ra hrs
            subst k1
            unfold rowsOk at hok
            simp only [Bool.and_eq_true, decide_eq_true_eq, List.all_eq_true] at hok
            obtain ⟨o1, o2, o3⟩ := hok
            have kb : ∀ p ∈ ks, p.2.length = (rs.headD [0]).length ∧ TS.Bd 1000 p.2 := by
              intro p hp
              have := o3 p.2 (by rw [← k2]; exact List.mem_map_of_mem hp)
              unfold rowOk at this
              simp only [Bool.and_eq_true, decide_eq_true_eq, List.all_eq_true] at this
              exact ⟨this.1, fun m hm => this.2 m hm⟩
            refine ⟨_, ks, rfl, .of (g1.s _ _ hh), fun p hp => .inl (.of (g1.s _ _ (k3 p hp))), by rw [← k2, List.length_map] at o1; exact o1, fun ad L hn hL1 hL2 => ?_⟩
            have gr := Gr.own (o := SetTO X.prog X.w ad L) g1.s hn
            refine ⟨ad, L, (rs.headD [0]).length, 1000, rfl, upd_same, fun p hp => .inl (.of (gr.s _ _ (k3 p (hL1 p hp)))), o2, fun p hp => kb p (hL1 p hp), fun L' ad2 pm nd _ up hn2 => ?_⟩
            have e : L'.map (·.2) = srtSet rs := by
              refine srtSet_uniq ?_ nd fun r => ?_
              · rw [List.pairwise_map]
                refine List.Pairwise.imp_of_mem (fun {p r} hp hr h => ?_) up
                have a1 := kb p (hL1 p (pm.mem_iff.mp hp))
                have a2 := kb r (hL1 r (pm.mem_iff.mp hr))
                exact code_ltL (by rw [a1.1, a2.1]) a1.2 a2.2 h
              · rw [← k2]
                constructor
                · intro hr
                  obtain ⟨p, hp, rfl⟩ := List.mem_map.mp hr
                  exact List.mem_map_of_mem (hL1 p (pm.mem_iff.mp hp))
                · intro hr
                  obtain ⟨p, hp, rfl⟩ := List.mem_map.mp hr
                  obtain ⟨z, hz, ez⟩ := List.mem_map.mp (hL2 p hp)
                  exact List.mem_map.mpr ⟨z, pm.mem_iff.mpr hz, ez⟩
            have rr : RA X.K B1 (L'.map fun q => V.ref q.1) ((srtSet rs).map fun r => PyData.tuple (r.map PyData.int)) := by
              rw [← e]
              exact ra_tups fun p hp => k3 p (hL1 p (pm.mem_iff.mp hp))
            exact EPost.own gr.s hn2 (.lst rr) (q.grow gr)
        · exact q.elim
      · exact q.elim
    · exact q.elim
  · exact .inr ⟨x, e1, q⟩
/-! ### reversed(range(n)) -/
theorem wlk_rngR {K : PySem.W.Frag} {B : Hp} (n : Nat) : Wlk K B (Itc (0 + (n : Int) - 1) (-1) n) (rng 0 n).reverse := by
  refine ⟨_, _, by have w := walk_rangeC (lo := 0 + (n : Int) - 1) (c := -1) (n := n); rw [show ((rng 0 n).reverse).length = n by simp [rng]]; exact w, fun _ _ _ _ => trivial, fun i B1 H1 v H2 hi e1 e2 y => ?_⟩
  obtain ⟨rfl, rfl⟩ := y
  have hi : i < n := by simpa [rng] using hi
  refine ⟨B1, .int (0 + (n : Int) - 1 + (i : Int) * (-1)), ?_, .refl e2, .int _⟩
  rw [List.getElem?_reverse (by simpa [rng] using hi)]
  have hl : (rng 0 n).length = n := by simp [rng]
  rw [hl]
  unfold rng
  rw [List.getElem?_map, List.getElem?_range (by omega)]
  show some (PyData.int (0 + ((n - 1 - i : Nat) : Int))) = some (PyData.int (0 + (n : Int) - 1 + (i : Int) * (-1)))
  rw [show (0 + ((n - 1 - i : Nat) : Int)) = 0 + (n : Int) - 1 + (i : Int) * (-1) by omega]
def revRg (d : PyData) : M (List PyData) := match d with
  | .int n => if rngOk n = true then .ok (rng 0 n.toNat).reverse else .stuck
  | _ => .stuck
theorem di_revR {tg : Expr} {p p2 pos2 : Pos} (hg : Gl X "reversed") (hm : X.mg "reversed" = none) (hg2 : Gl X "range") (hm2 : X.mg "range" = none) (h : DE X E e fa)
    (s1 : starEach [e] X.env = (false, eval e X.env) :: starEach [] X.env := by rfl) (s2 : starEach [.Call (.Name "range" p2) [e] [] pos2] X.env = (false, eval (.Call (.Name "range" p2) [e] [] pos2) X.env) :: starEach [] X.env := by rfl) :
    DI X E tg (.Call (.Name "reversed" p) [.Call (.Name "range" p2) [e] [] pos2] [] pos) (fun ρ => (fa ρ).bind fun x => revRg x.d) := by
  obtain ⟨t, pt, h⟩ := h
  refine ⟨_, pi_revR hg hm (prg_1 hg2 hm2 pt s1) s2, fun B0 H0 B H σ ρ Q re q => ?_⟩
  refine run_e h re ?_
  rcases q.bind with ⟨x, e1, q⟩ | ⟨x, e1, q⟩
  · refine .inl ⟨x, e1, fun v B1 H1 g1 r1 => ?_⟩
    have q := IPost.grow g1 q
    unfold revRg at q
    split at q
    · rename_i n hn
      rw [hn] at r1
      cases r1
      split at q
      · rename_i hk
        have k := rngOk_ok hk
        refine ⟨n, rfl, by decide, by decide, k.1, k.2, ?_⟩
        have := wlk_rngR (K := X.K) (B := B1) n.toNat
        rw [show n - 0 = n by omega]
        exact q _ B1 H1 (.refl g1.s) this
      · exact q.elim
    · exact q.elim
  · exact .inr ⟨x, e1, q⟩
/-! ### l.index(x) -/
def gIndex (d e : PyData) : M Sl := match d with
  | .list ds => if (SeqAt.shaped (.list ds) && SeqAt.shaped e) = true then (match ds.findIdx? fun z => PyData.eqv z e with
    | some j => retI (j : Nat)
    | none => .stuck) else .stuck
  | _ => .stuck
def eIndex (fo fa : Env → M Sl) : Env → M Sl := fun ρ => (fo ρ).bind fun x => match x.d with
  | .list ds => (fa ρ).bind fun y => gIndex (.list ds) y.d
  | _ => .stuck
theorem de_index {o : Expr} {fo : Env → M Sl} {apos : Pos} (hu : X.A.units + 65 < cLine) (ho : DE X E o fo) (ha : DE X E e fa)
    (hpe : ∀ to t, PE X o to → PA X [e] t → PE X (.Call (.Attribute o "index" apos) [e] [] pos) (tBM X.K "list" (rIndexD X.K) to t)) (s1 : starEach [e] X.env = (false, eval e X.env) :: starEach [] X.env := by rfl) :
    DE X E (.Call (.Attribute o "index" apos) [e] [] pos) (eIndex fo fa) := by
  obtain ⟨to, po, ho⟩ := ho
  obtain ⟨t, pt, ha⟩ := ha
  refine ⟨_, hpe _ _ po (pa_cons pt pa_nil s1), fun B0 H0 B H σ ρ Q re q => ?_⟩
  refine run_e ho re ?_
  rcases q.bind with ⟨x, e1, q⟩ | ⟨x, e1, q⟩
  · refine .inl ⟨x, e1, fun v B1 H1 g1 r1 => ?_⟩
    have q := EPost.grow g1 q
    split at q
    · rename_i ds hds
      rw [hds] at r1
      cases r1 with
      | lst hh ra =>
        refine ⟨.inl ⟨rfl, _, .of (g1.s _ _ hh)⟩, ?_⟩
        refine run_e ha (re.grow g1) ?_
        rcases q.bind with ⟨y, e2, q2⟩ | ⟨y, e2, q2⟩
        · refine .inl ⟨y, e2, fun v2 B2 H2 g2 r2 => ?_⟩
          have q2 := EPost.grow g2 q2
          unfold gIndex at q2
          dsimp only at q2
          split at q2
          · rename_i hs
            rw [Bool.and_eq_true] at hs
            split at q2
            · rename_i j hj
              obtain ⟨hlt, h1, h2⟩ := List.findIdx?_eq_some_iff_getElem.mp hj
              refine ⟨_, v2, y.d, ds, j, ds[j], rfl, rfl, ?_, (r2.mono g2.s).dp (SeqAt.canLay_of_shaped hs.2), hs.1, hs.2, List.getElem?_eq_getElem hlt, h1, fun m z hm hz => ?_, q2.val g2.s (.int _)⟩
              · exact ((R.lst hh ra).mono (g2.b.trans g2.s)).dp (SeqAt.canLay_of_shaped hs.1)
              · have hml : m < ds.length := by omega
                rw [List.getElem?_eq_getElem hml] at hz
                cases hz
                have := h2 m hm
                simpa using this
            · exact q2.elim
          · exact q2.elim
        · exact .inr ⟨y, e2, q2⟩
    · exact q.elim
  · exact .inr ⟨x, e1, q⟩
end
end Dl
/-! min of two data, min of a list of whole numbers. -/
namespace PySem.W
open Lean Elab Tactic Meta PySem PySem.Calls PyProof.Rows PyProof.V PySem.Spec
end PySem.W
/-! dict(d) of a dict whose keys are tuples of whole numbers. -/
namespace PySem
open Sem (wp)
open SeqAt
end PySem
/-! self.f[i] = e for a list of one's own in a field. -/
/-! l[k], l a list of one's own in a slot, within a def with a store. -/
/-! own[i] = e within a def with a store; sep.join(a list of texts). -/
/-! y = [..] within a def with a store, the short way. -/
/-! l.count(x) of data. -/
/-! d.items() of a dict with tuple keys. -/
namespace Dl
open PySem PySem.Spec PyProof.Rows L2
section
variable {X : Cx} {pins : List (Addr × Obj)} {σ : L2.St} {H : Hp} {s : Shared} {d : Addr} {o : Obj}
theorem frzTV {kvs : List (List Key × V)} (I : Inv X pins σ H s) (h : H d = some (.frz o (.dT kvs))) :
    (d == sysModules) = false ∧ s.heap.get? d = some o ∧ o.ExactDict ∧ ∃ (es : Array DictEntry) (ep : Nat), o.data = .dict es ep ∧ es.size = kvs.length ∧
      ∀ (i : Nat) (k : List Key) (v : V), kvs[i]? = some (k, v) → ∃ (en : DictEntry) (q : Addr), es[i]? = some en ∧ en.key = .ref q ∧ H q = some (.tup (k.map kV)) ∧ RelV v en.val := by
  obtain ⟨hd, z, hs, xs, pr, o', es, ep, ho, hx, hdt, he, _⟩ := I.hok d _ h
  rw [hd] at ho
  cases ho
  refine ⟨hs, hd, hx, es, ep, hdt, ?_, fun i k v e => ?_⟩
  · have l1 : es.size = xs.length := size_of_entries he
    have l2 : kvs.length = xs.length := Paired.length pr
    omega
  · obtain ⟨b, hb, e1, e2, e3⟩ := paired_get pr e
    have q := entry_at he i
    rw [hb] at q
    exact ⟨_, b.2.1, q, rfl, e2, e3⟩
end
/-- the pairs of the locked dict at d, tuple keys: each a new tuple -/
def Itit (d : Addr) (o : Obj) (kvs : List (List Key × V)) : It :=
  ⟨fun i H => H d = some (.frz o (.dT kvs)) ∧ i < kvs.length, fun i H x H' => ∃ T k v q, kvs[i]? = some (k, v) ∧ x = .ref T ∧ H T = none ∧ H q = some (.tup (k.map kV)) ∧ H' = upd H T (.tup [.ref q, v]), fun i H => H d = some (.frz o (.dT kvs)) ∧ kvs.length ≤ i⟩
theorem turn_itemsT {P : Program} {w : World} {K : PySem.W.Frag} {d : Addr} {o : Obj} {es : Array DictEntry} {ep : Nat} {kvs : List (List Key × V)} {elts : List Expr} {kk : Nat} {tpos : Pos} (it : Addr) (hod : o.data = .dict es ep) :
    Turn P w K (.Tuple elts kk tpos) (Itit d o kvs) [it] it (fun i h => ∃ ok ov, IsItemIter h it d i kvs.length ep ok ov) where
  mem := by simp
  obj := fun i h st b hb => by
    have e : b = it := by simpa using hb
    subst e
    obtain ⟨ok, ov, e⟩ := st
    exact ⟨_, e, fun v z => nomatch z⟩
  keep := fun i h h' st k => let ⟨ok, ov, e⟩ := st; ⟨ok, ov, k it (by simp) _ e⟩
  item := by
    intro X hP hw hK hc i pins s σ H E I hf st hg
    subst hP hw hK
    obtain ⟨hd, hi⟩ := hg
    obtain ⟨hs, hgd, hx, es', ep', hdt, hsz, ent⟩ := frzTV I hd
    obtain ⟨rfl, rfl⟩ := dict_ep hod hdt
    obtain ⟨⟨k, v⟩, hkv⟩ : ∃ p, kvs[i]? = some p := ⟨kvs[i], List.getElem?_eq_getElem hi⟩
    obtain ⟨en, qa, hen, hkey, hq, rv⟩ := ent i k v hkv
    obtain ⟨ok, ov, he⟩ := st
    rw [← hsz] at he
    have hlt : it < s.heap.objs.size := Heap.lt_size he
    have hies : i < es'.size := by omega
    have hge : es'[i] = en := by
      rw [Array.getElem?_eq_getElem hies] at hen
      exact Option.some.inj hen
    refine wpAny_pyNext_items_item_raw he ⟨o, hgd, hx, hdt⟩ hies fun h' ho hT hz hk => ?_
    rw [hge] at ho hT
    refine ⟨_, rfl, wpAny_letOwnedTupleGo_items (s := { s with heap := h' }) ho fun h'' he' sb => ?_⟩
    have hT2 : h''.get? s.heap.objs.size = some { cls := .type "tuple", data := .seq #[en.key, en.val] } := (sb.2 _ (Nat.ne_of_gt hlt)).trans hT
    have new : ObjOk X.prog X.w (upd H s.heap.objs.size (.tup [.ref qa, v])) h'' s.heap.objs.size (.tup [.ref qa, v]) :=
      ⟨by show 2 ≤ sizeLine; decide, [en.key, en.val], .cons hkey (.cons rv .nil), ⟨_, hT2, rfl, _, rfl⟩⟩
    have I1 : Inv X pins σ (upd H s.heap.objs.size (.tup [.ref qa, v])) { s with heap := h'' } :=
      I.turnedNew (t' := s.toks) (ch := [it]) (fun b ob hb e => (sb.2 b (by simpa using hb)).trans (hk b ob (by simpa using hb) e)) hf (Nat.le_refl _) new
    refine ⟨.ref s.heap.objs.size, _, I1, rfl, ⟨_, k, v, qa, hkv, rfl, I.hok.fresh (Nat.le_refl _), hq, rfl⟩, ⟨en.key, en.val, ?_⟩, fun b hb => ?_⟩
    · rw [← hsz]; exact he'
    · have e : b = it := by simpa using hb
      rw [e, upd_ne (Nat.ne_of_lt hlt)]
      exact (hf it (by simp)).1
  done := by
    intro X hP hw hK hc i pins s σ H E I hf st hg
    subst hP hw hK
    obtain ⟨hd, hi⟩ := hg
    obtain ⟨f0, f1, f2, f3, f4, f5⟩ := hf it (by simp)
    obtain ⟨hs, hgd, hx, es', ep', hdt, hsz, ent⟩ := frzTV I hd
    obtain ⟨rfl, rfl⟩ := dict_ep hod hdt
    obtain ⟨ok, ov, he⟩ := st
    rw [← hsz] at he
    exact wpAny_pyNext_items_end_raw (I.ok.hd hc) he ⟨o, hgd, hx, hdt⟩ (by omega) fun h' eb => ⟨rfl, I.turned (t' := s.toks) (fun b ob hb e => eb b ob hb e) f0 f1 f3 f4 f5⟩
  self := fun A i s Q E st h => let ⟨_, _, e⟩ := st; PySem.W.kcp_self e h
def iItemsT (td : TE) : TI := fun σ H R => td σ H fun x H1 => ∃ d o kvs, x = .ref d ∧ H1 d = some (.frz o (.dT kvs)) ∧ R (Itit d o kvs) H1
theorem pi_itemsT {X : Cx} {e : Expr} {td : TE} {apos cpos tpos : Pos} {elts : List Expr} {kk : Nat} (he : PE X e td) (hbase : attributeBase e "items" X.env (eval e X.env) = eval e X.env := by rfl) (hline : (apos.endLine == cpos.line) = true := by rfl) :
    PI X (.Tuple elts kk tpos) (.Call (.Attribute e "items" apos) [] [] cpos) (iItemsT td) := by
  refine ⟨fun pins s σ H R I h => ?_⟩
  refine wpAny_Call_method (T := "dict") (id := "dict.items") hbase rfl hline F.plainAttrs_dict F.slot_dict_items F.type_dict_items (thn (he.run pins s σ H _ I h) fun u s1 ⟨x, H1, I1, rx, d, o, kvs, ex, hd, q⟩ => ?_)
  subst ex
  obtain rfl : u = Value.ref d := rx
  obtain ⟨hs, hgd, hx, es, ep, hdt, hsz, ent⟩ := frzTV I1 hd
  have hr : s1.heap.DictRaw d es ep := ⟨o, hgd, hx, hdt⟩
  refine ⟨hr.typeIs, ?_, ?_⟩
  · exact fun b e => by cases e; exact ⟨o, hgd, by first | exact hx.2.1 | exact hx.2.2⟩
  have I2 : Inv X pins σ H1 { s1 with heap := s1.heap.push { cls := .type "dict_items", data := .fields #[.ref d] } } := I1.kept (t' := s1.toks) fun b ob q => Heap.get?_push_of_some _ q
  have fin : wpAny (model X.prog X.w) X.A (pyIter (.ref s1.heap.objs.size)) (PIE X pins σ (.Tuple elts kk tpos) R) X.xe { s1 with heap := s1.heap.push { cls := .type "dict_items", data := .fields #[.ref d] } } := by
    refine wpAny_pyIter_items_raw (d := d) ⟨_, Heap.get?_push_size _ rfl, rfl, rfl⟩ (hr.at fun o e => Heap.get?_push_of_some _ e) (pi_one (tk := s1.toks) I2 _ (turn_itemsT _ hdt) ⟨.none, .none, ?_⟩ q)
    rw [← hsz]
    exact Heap.get?_push_size _ rfl
  show wpAny _ _ (callWith cpos (.builtin "dict.items") [.ref d] [] []) _ X.xe s1
  exact method_meetsIn F.slot_dict_items F.entry_dict_items rfl (PySem.evalArgs_none ⟨rfl, hr.typeIs, F.args_dict_items_1 _, _, meets_dict_items_raw d hs, ⟨es, ep, hr⟩, fin⟩)
end Dl
/-! [.. for k, v in d.items()] over a dict of one's own with tuple keys. -/
namespace Dl
open PySem PySem.Spec PyProof.Rows L2
theorem walk_itemsT {d : Addr} {o : Obj} {kvs : List (List Key × V)} : Walk (Itit d o kvs) kvs.length (fun H => H d = some (.frz o (.dT kvs)))
    (fun i H x H' => ∃ T k v q, kvs[i]? = some (k, v) ∧ x = .ref T ∧ H T = none ∧ H q = some (.tup (k.map kV)) ∧ H' = upd H T (.tup [.ref q, v])) :=
  ⟨fun _ _ hi q => ⟨q, hi⟩, fun _ q => ⟨q, Nat.le_refl _⟩, fun _ _ _ _ _ _ y => y⟩
/-- what the walk J yields, from this point on -/
def WlkG (K : PySem.W.Frag) (B1 H1 : Hp) (J : It) (ds : List PyData) : Prop := ∃ G Y, Walk J ds.length G Y ∧ (∀ B' H', Gr B1 H1 B' H' → G H') ∧
  ∀ (i : Nat) B' H' v H2, i < ds.length → Gr B1 H1 B' H' → Y i H' v H2 → ∃ B2 d, ds[i]? = some d ∧ Gr B' H' B2 H2 ∧ R K B2 v d
theorem raKeysT {K : PySem.W.Frag} {H : Hp} : ∀ ks : List Key, RA K H (ks.map kV) (ks.map keyD)
  | [] => .nil
  | k :: ks => .cons (by cases k <;> first | exact .int _ | exact .str _ | exact .bl _ | exact .non) (raKeysT ks)
def itmsT (es : List (PyData × PyData)) : List PyData := es.map fun p => .tuple [p.1, p.2]
theorem wlkg_items {K : PySem.W.Frag} {B1 H1 : Hp} {d : Addr} {o : Obj} {kvs : List (List Key × V)} {vs : List PyData} (hd : H1 d = some (.frz o (.dT kvs))) (ra : RA K B1 (kvs.map (·.2)) vs) :
    WlkG K B1 H1 (Itit d o kvs) (itmsT ((kvs.map fun p => PyData.tuple (p.1.map keyD)).zip vs)) := by
  have hl : kvs.length = vs.length := by have := ra.length; rw [List.length_map] at this; exact this
  have hl2 : (itmsT ((kvs.map fun p => PyData.tuple (p.1.map keyD)).zip vs)).length = kvs.length := by
    unfold itmsT
    rw [List.length_map, List.length_zip, List.length_map, hl, Nat.min_self]
  refine ⟨_, _, by rw [hl2]; exact walk_itemsT, fun B' H' g => g.h _ _ hd, ?_⟩
  rintro i B' H' v H2 hi g ⟨T, k, x, q, h1, rfl, h3, h4, rfl⟩
  have nT : q ≠ T := fun e => by rw [e, h3] at h4; cases h4
  obtain ⟨y, hy, ry⟩ := ra.getV (i := i) (v := x) (by rw [List.getElem?_map, h1]; rfl)
  have bq : ∀ a o, B' a = some o → a = q → o = .tup (k.map kV) := fun a o e z => by
    subst z
    have := g.s a o e
    rw [h4] at this
    exact (Option.some.inj this).symm
  have nb : ∀ a o, B' a = some o → a ≠ T := fun a o e z => by
    have := g.s a o e
    rw [z, h3] at this; cases this
  have g2 : Gr B' H' (upd (upd B' q (.tup (k.map kV))) T (.tup [.ref q, x])) (upd H' T (.tup [.ref q, x])) := by
    refine ⟨fun a o e => ?_, .new h3, fun a o e => ?_, fun a o e n => ?_⟩
    · rw [upd_ne (nb a o e)]
      by_cases z : a = q
      · rw [bq a o e z, z, upd_same]
      · rw [upd_ne z]; exact e
    · by_cases z : a = T
      · rw [z, upd_same] at e ⊢; exact e
      · rw [upd_ne z] at e ⊢
        by_cases z2 : a = q
        · rw [z2, upd_same] at e
          rw [z2, h4]; exact e
        · rw [upd_ne z2] at e
          exact g.s a o e
    · by_cases z : a = T
      · rw [z, h3] at e; cases e
      · rw [upd_ne z]
        by_cases z2 : a = q
        · rw [z2, h4] at e
          exact .inr ⟨_, (Option.some.inj e).symm⟩
        · rw [upd_ne z2]; exact .inl n
  refine ⟨_, .tuple [.tuple (k.map keyD), y], ?_, g2, .tup upd_same (.cons (.tup (xs := k.map kV) ?_ (raKeysT k)) (.cons (ry.mono (g.b.trans g2.b)) .nil))⟩
  · unfold itmsT
    have hz : ((kvs.map fun p => PyData.tuple (p.1.map keyD)).zip vs)[i]? = some (PyData.tuple (k.map keyD), y) := List.getElem?_zip_eq_some.2 ⟨by rw [List.getElem?_map, h1]; rfl, hy⟩
    rw [List.getElem?_map, hz]
    rfl
  · rw [upd_ne nT, upd_same]
/-- a comprehension over what is walked from this point on -/
theorem lc_G {X : Cx} {g : TG} {tt : TT} {te : TE} {own sl : List Nat} {bd : PyData → Env → M Env} {ft : Env → M Bool} {fe : Env → M Sl} (hsl : ∀ i ∈ sl, i ∈ own)
    (hg : ∀ B0 H0 B H σ ρ v d ρ' (Q : L2.St → Hp → Prop), ER X.K B0 H0 B H σ ρ → R X.K B v d → bd d ρ = .ok ρ' → (∀ σ', ER X.K B0 H0 B H σ' ρ' → OnlyAt sl σ σ' → Q σ' H) → g v σ H Q)
    (ht : ∀ B0 H0 B H σ ρ Q, ER X.K B0 H0 B H σ ρ → TPost X.K E0 B H (ft ρ) Q → tt σ H Q) (he : ∀ B0 H0 B H σ ρ Q, ER X.K B0 H0 B H σ ρ → EPost X.K E0 B H (fe ρ) Q → te σ H Q)
    {B0 H0 B1 H1 : Hp} {σ : L2.St} {ρ : Env} {J : It} {ds ys : List PyData} {Q : VK} (re1 : ER X.K B0 H0 B1 H1 σ ρ) (w : WlkG X.K B1 H1 J ds) (e2 : lcF bd ft fe ds (wipeE ρ own) = .ok ys) (hbig : big ys.length = true)
    (q : ∀ D B' H' acc, Gr B1 H1 B' H' → H1 D = none → B' D = none → H' D = some (.lst acc) → RA X.K B' acc ys → Q (.ref D) H') : ∀ D, H1 D = none → ∃ W : Nat → Nat → Hp → Prop, (∃ m, W 0 m (upd H1 D (.lst []))) ∧ ∀ i m H, W i m H →
      (J.stop i H ∧ Q (.ref D) H) ∨ (J.go i H ∧ ∃ Nx : Hp → Prop, (∀ H', Nx H' → ∃ m', m' < m ∧ W (i + 1) m' H') ∧ ∀ x H', J.yld i H x H' → g x (wipe σ own) H' fun σ2 H2 => wipe σ2 own = wipe σ own ∧ tt σ2 H2 fun b H3 =>
        if b = true then te σ2 H3 fun y H4 => ∃ acc, H4 D = some (.lst acc) ∧ acc.length < sizeLine ∧ Nx (upd H4 D (.lst (acc ++ [y]))) else Nx H3) := by
  obtain ⟨G, Y, w, hG, hY⟩ := w
  intro D hD
  refine lc_it w (fun i H' => ∃ B' acc dn rest, Gr B1 H1 B' H' ∧ B' D = none ∧ H' D = some (.lst acc) ∧ RA X.K B' acc dn ∧ lcF bd ft fe (ds.drop i) (wipeE ρ own) = .ok rest ∧ dn ++ rest = ys)
    ⟨B1, [], [], ys, .own re1.gr.s hD, re1.gr.s.back hD, upd_same, .nil, e2, rfl⟩ (fun i H' _ ⟨B', _, _, _, g', _⟩ => hG B' H' g') ?_ ?_
  · rintro i v H2 H3 hlt ⟨B', acc, dn, rs, g', nD, hacc, ra, hrest, hy⟩ y
    obtain ⟨B2, d, hd, g2, rv⟩ := hY i B' H2 v H3 hlt g' y
    have hdr : ds.drop i = d :: ds.drop (i + 1) := by
      have hh : i < ds.length := hlt
      rw [List.getElem?_eq_getElem hh] at hd
      cases hd
      exact List.drop_eq_getElem_cons hh
    rw [hdr] at hrest
    unfold lcF at hrest
    have g12 := g'.trans g2
    cases z1 : bd d (wipeE ρ own) with
    | stuck => rw [z1] at hrest; cases hrest
    | exc x => rw [z1] at hrest; cases hrest
    | ok ρ1 =>
      rw [z1] at hrest
      simp only [noX, bind_ok] at hrest
      refine hg B0 H0 B2 H3 (wipe σ own) (wipeE ρ own) v d ρ1 _ ((re1.grow g12).wipe own) rv z1 fun σ2 re2 only => ⟨(only own hsl).trans (wipe_wipe own), ?_⟩
      refine ht B0 H0 B2 H3 σ2 ρ1 _ re2 ?_
      cases z2 : ft ρ1 with
      | stuck => rw [z2] at hrest; cases hrest
      | exc x => rw [z2] at hrest; cases hrest
      | ok b =>
        rw [z2] at hrest
        simp only [bind_ok] at hrest
        intro B3 H4 g3
        have g13 := g12.trans g3
        have n3 : B3 D = none := (g2.trans g3).lm hacc nD (fun _ h => nomatch h)
        have a3 : H4 D = some (.lst acc) := (g2.trans g3).h D _ hacc
        cases b with
        | false =>
          rw [if_neg Bool.false_ne_true] at hrest ⊢
          exact ⟨B3, acc, dn, rs, g13, n3, a3, ra.mono (g2.trans g3).b, hrest, hy⟩
        | true =>
          rw [if_pos rfl] at hrest ⊢
          refine he B0 H0 B3 H4 σ2 ρ1 _ (re2.grow g3) ?_
          cases z3 : fe ρ1 with
          | stuck => rw [z3] at hrest; cases hrest
          | exc x => rw [z3] at hrest; cases hrest
          | ok yv =>
            rw [z3] at hrest
            simp only [bind_ok] at hrest
            cases z4 : lcF bd ft fe (ds.drop (i + 1)) (wipeE ρ own) with
            | stuck => rw [z4] at hrest; cases hrest
            | exc x => rw [z4] at hrest; cases hrest
            | ok rs' =>
              rw [z4] at hrest
              cases hrest
              intro u B4 H5 g4 r4
              obtain ⟨B5, g5, r5⟩ := r4.fix g4
              have g15 := g13.trans g5
              have n5 : B5 D = none := g5.lm a3 n3 (fun _ h => nomatch h)
              have a5 : H5 D = some (.lst acc) := g5.h D _ a3
              have hlen : acc.length < sizeLine := by
                have k := big_ok hbig
                have k2 : dn.length + (rs'.length + 1) = ys.length := by rw [← hy, List.length_append, List.length_cons]
                rw [ra.length]
                omega
              refine ⟨acc, a5, hlen, B5, acc ++ [u], dn ++ [yv.d], rs', ⟨g15.b, fun a o h => ?_, fun a o h => ?_, g15.l⟩, n5, upd_same, (ra.mono ((g2.trans g3).b.trans g5.b)).snoc r5, rfl, by rw [List.append_assoc]; exact hy⟩
              · rw [upd_ne (ne_of_none h hD)]
                exact g15.h a o h
              · rw [upd_ne (ne_of_none h n5)]
                exact g15.s a o h
  · rintro H2 ⟨B', acc, dn, rs, g', nD, hacc, ra, hrest, hy⟩
    rw [List.drop_length] at hrest
    cases hrest
    rw [List.append_nil] at hy
    subst hy
    exact q D B' H2 acc g' hD nD hacc ra
/-- [.. for k, v in by.items()], by one's own at slot i -/
def eLcIt (i : Nat) (own : List Nat) (bd : PyData → Env → M Env) (tt : Env → M Bool) (fe : Env → M Sl) : Env → M Sl := fun ρ => match ρ[i]? with
  | some (some (.own (.dict ((.bool true, .none) :: es)))) => (lcF bd tt fe (itmsT es) (wipeE (ρ.set i none) own)).bind fun ys => if big ys.length = true then .ok (.own (.list ys)) else .stuck
  | _ => .stuck
theorem er_lock {K : PySem.W.Frag} {B0 H0 B H : Hp} {σ : L2.St} {ρ : Env} {i : Nat} {d : PyData} {p : Addr} (re : ER K B0 H0 B H σ ρ) (hl : ρ[i]? = some (some (.own d))) (h1 : σ[i]? = some (some (.ref p))) (h2 : H0 p = none) (h3 : B p = none) (o : HO) :
    ER K B0 H0 B (upd H p o) σ (ρ.set i none) where
  gr := ⟨re.gr.b, fun a u e => by
      rw [upd_ne (fun z => by rw [z, h2] at e; cases e)]
      exact re.gr.h a u e, fun a u e => by
      rw [upd_ne (fun z => by rw [z, h3] at e; cases e)]
      exact re.gr.s a u e, re.gr.l⟩
  len := by rw [List.length_set]; exact re.len
  dat := fun j e h => by
    by_cases z : j = i
    · subst z
      rw [List.getElem?_set_self (by have := (List.getElem?_eq_some_iff.1 hl).1; exact this)] at h
      cases h
    · rw [List.getElem?_set_ne (Ne.symm z)] at h
      exact re.dat j e h
  own := fun j e h => by
    by_cases z : j = i
    · subst z
      rw [List.getElem?_set_self (by have := (List.getElem?_eq_some_iff.1 hl).1; exact this)] at h
      cases h
    · rw [List.getElem?_set_ne (Ne.symm z)] at h
      obtain ⟨p2, o2, k1, k2, k3, k4, k5⟩ := re.own j e h
      refine ⟨p2, o2, k1, k2, k3, ?_, k5⟩
      rw [upd_ne (fun z2 : p2 = p => z (re.sep j i e d p h hl (by rw [← z2]; exact k1) h1))]
      exact k4
  sep := fun j k a b q hj hk x y => by
    by_cases z : j = i
    · subst z
      rw [List.getElem?_set_self (by have := (List.getElem?_eq_some_iff.1 hl).1; exact this)] at hj
      cases hj
    · by_cases z2 : k = i
      · subst z2
        rw [List.getElem?_set_self (by have := (List.getElem?_eq_some_iff.1 hl).1; exact this)] at hk
        cases hk
      · rw [List.getElem?_set_ne (Ne.symm z)] at hj
        rw [List.getElem?_set_ne (Ne.symm z2)] at hk
        exact re.sep j k a b q hj hk x y
variable {X : Cx} {E : XK}
theorem de_lcIt {i : Nat} {e elt : Expr} {elts : List Expr} {kk : Nat} {tpos apos cpos pos : Pos} {ifs : List Expr} {scope : Scope} {own : List (Str × Nat)} {sl : List Nat} {bd : PyData → Env → M Env} {ft : Env → M Bool} {fe : Env → M Sl}
    (hc : X.calm = true) (hN : X.N.Nodup) (ho : PE X e (tVar i)) (ok : BlkOk X.N X.env.scope scope own) (hsl : ∀ i ∈ sl, i ∈ own.map (·.2))
    (hg : ∀ (s : Shared) (H : Hp) (C : Addr) (cl : List (Str × Addr)) (fp : List Addr), DG (X.blk s H scope (compEnvC scope cl C X.env) fp) (.Tuple elts kk tpos) sl bd)
    (ht : ∀ (s : Shared) (H : Hp) (C : Addr) (cl : List (Str × Addr)) (fp : List Addr), DTs (X.blk s H scope (compEnvC scope cl C X.env) fp) E0 ifs ft)
    (he : ∀ (s : Shared) (H : Hp) (C : Addr) (cl : List (Str × Addr)) (fp : List Addr), DE (X.blk s H scope (compEnvC scope cl C X.env) fp) E0 elt fe)
    (hbase : attributeBase e "items" X.env (eval e X.env) = eval e X.env := by rfl) (hline : (apos.endLine == cpos.line) = true := by rfl)
    (hs : ∀ x, foldedSetIterable (.Call (.Attribute e "items" apos) [] [] cpos) X.env x = pure x := by intro _; rfl) :
    DE X E (.ListComp elt [⟨.Tuple elts kk tpos, .Call (.Attribute e "items" apos) [] [] cpos, ifs, 0⟩] scope pos) (eLcIt i (own.map (·.2)) bd ft fe) := by
  refine ⟨_, pe_lock (pe_lc (g := rdG X.K sl bd) (tt := rdT X.K E0 ft) (te := rdE X.K E0 fe) hc hN (pi_itemsT ho hbase hline) ok (fun s H C cl fp => (hg s H C cl fp).pg) (fun s H C cl fp => (ht s H C cl fp).pts) (fun s H C cl fp => (he s H C cl fp).pe) hs), fun B0 H0 B H σ ρ Q re q => ?_⟩
  unfold eLcIt at q
  split at q
  · rename_i es hl
    obtain ⟨p1, o, k1, k2, k3, k4, k5⟩ := re.own i _ hl
    rcases q.bind with ⟨ys, e2, q3⟩ | ⟨x, e2, _⟩
    · split at q3
      · rename_i hbig
        generalize hd : PyData.dict ((.bool true, .none) :: es) = d at k5
        cases k5 with
        | lst _ => cases hd
        | dK ra =>
          rename_i kvs vs
          injection hd with hd
          cases kvs with
          | nil => cases hd
          | cons kv kvs =>
            cases vs with
            | nil => cases hd
            | cons v vs =>
              injection hd with hd _
              injection hd with hd _
              obtain ⟨k, _⟩ := kv
              cases k <;> cases hd
        | dT ra =>
          rename_i kvs vs
          injection hd with hd
          injection hd with _ hd
          subst hd
          refine ⟨p1, _, k4, trivial, fun od => ⟨_, k1, p1, od, kvs, rfl, upd_same, ?_⟩⟩
          have re1 := er_lock re hl k1 k2 k3 (.frz od (.dT kvs))
          refine lc_G (Q := fun v H' => H' p1 = some (.frz od (.dT kvs)) ∧ Q v (upd H' p1 (.dT kvs))) (g := rdG X.K sl bd) (tt := rdT X.K E0 ft) (te := rdE X.K E0 fe) hsl (fun B0 H0 B H σ ρ v d ρ' Q re rv e q => ⟨B0, H0, B, ρ, d, ρ', re, rv, e, q⟩) (fun B0 H0 B H σ ρ Q re q => ⟨B0, H0, B, ρ, re, q⟩) (fun B0 H0 B H σ ρ Q re q => ⟨B0, H0, B, ρ, re, q⟩) re1 (wlkg_items upd_same ra) e2 hbig fun D B' H' acc g hD nD hacc r => ?_
          have hp := g.h p1 _ upd_same
          have np : B' p1 = none := g.lm upd_same k3 (fun _ h => nomatch h)
          have nDp : D ≠ p1 := fun z => by rw [z, upd_same] at hD; cases hD
          refine ⟨hp, q3 _ B' _ ⟨g.b, fun a u e => ?_, fun a u e => ?_, fun a u e n => ?_⟩ ⟨D, _, rfl, ?_, nD, ?_, .lst r⟩⟩
          · by_cases z : a = p1
            · rw [z, upd_same, ← e, z, k4]
            · rw [upd_ne z]
              exact g.h a u (by rw [upd_ne z]; exact e)
          · rw [upd_ne (fun z => by rw [z, np] at e; cases e)]
            exact g.s a u e
          · by_cases z : a = p1
            · rw [z]; exact .inl np
            · exact g.l a u (by rw [upd_ne z]; exact e) n
          · rw [upd_ne nDp] at hD; exact hD
          · rw [upd_ne nDp]; exact hacc
      · exact q3.elim
    · exact absurd e2 (lcF_ne _ _ _)
  · exact q.elim
end Dl
/-! The data layer: sorted(t) of a tuple of alike data. -/
namespace PySem.W
open PySem PySem.Calls PyProof.Rows PySem.Spec PySem.SeqAt
section
variable {prog : Program} {w : World} {A : Around} {E : Value → Shared → Prop} {s : Shared} {β : Type} {vs : List Value} {bs : List β} {enc : β → PyData} {R : Value → β → Prop}
theorem collect_tup {l : Addr} {vs : List Value} {Q : List Value → Shared → Prop} (hl : PyProof.Rows.IsTup s.heap l vs.toArray)
    (h : Q vs { s with heap := (s.heap.push (seqObj "list" #[] 0)).update s.heap.objs.size (Obj.mapSeq (· ++ vs.toArray)) }) (hsz : vs.length ≤ sizeLine) :
    wpAny (model prog w) A (collect (.ref l)) Q E s := by
  obtain ⟨o, ho, hc, n, hd⟩ := id hl
  unfold collect
  refine wpAny_bind (wpAny_runValue (codeAny_builtin entry_proto_collect' ?_))
  show wpAny _ _ (do again (.builtin "list.__iadd__" ⟨[← newList [], .ref l], []⟩)) _ _ s
  refine wpAny_bind (wpAny_newList (wpAny_pure ⟨Code.quiet_builtin _ (by decide +kernel), codeAny_builtin entry_list_iadd' ?_⟩))
  show wpAny _ _ (Builtin.List.listExtendWith (.ref s.heap.objs.size) (.ref l) (.ref s.heap.objs.size)) _ _ { s with heap := s.heap.push (seqObj "list" #[] 0) }
  unfold Builtin.List.listExtendWith
  have ho' : (s.heap.push (seqObj "list" #[] 0)).get? l = some o := Heap.get?_push_of_some _ ho
  refine wpAny_bind (wpAny_typeOf (T := "tuple") ⟨o, ho', hc⟩ ?_)
  have ht : (Value.type "tuple" == Value.type "tuple") = true := by rfl
  rw [if_pos (by rw [ht]; simp)]
  refine wpAny_bind (listItems_at ho' hd ?_)
  refine wpAny_bind (listItems_at (xs := #[]) (n := 0) (Heap.get?_push_size _ rfl) rfl ?_)
  rw [if_neg (by simp)]
  refine wpAny_bind (listUpdate_at (xs := #[]) (n := 0) (Heap.get?_push_size _ rfl) rfl ?_ (Nat.zero_le _) (by show (#[] ++ vs.toArray).size ≤ sizeLine + 1; simp only [Array.size_append, List.size_toArray, List.length_nil]; omega))
  refine wpAny_pure ?_
  show wpAny (model prog w) A (do
      let o ← load s.heap.objs.size
      match o.data with
      | .seq xs _ => pure xs.toList
      | _ => unsupported "internal:collect") Q E { s with heap := (s.heap.push (seqObj "list" #[] 0)).update s.heap.objs.size (Obj.mapSeq (· ++ vs.toArray)) }
  refine wpAny_bind (wpAny_load (get?_update_seq (Heap.get?_push_size _ rfl) _) ?_)
  show wpAny _ _ (pure ((#[] : Array Value) ++ vs.toArray).toList) Q E _
  refine wpAny_pure ?_
  simpa using h
theorem sorted_of_sortT {l : Addr} {vs : List Value} {kw : List (Str × Value)} {Q : Value → Shared → Prop} (hl : PyProof.Rows.IsTup s.heap l vs.toArray) (hL : vs.length ≤ sizeLine) (ha1 : argsOk "sorted" ⟨[.ref l], kw⟩) (ha2 : ∀ x, argsOk "list.sort" ⟨[.ref x], kw⟩)
    (body : ∀ E' : Value → Shared → Prop, wpAny (model prog w) A.in1.in1 (Builtin.«list.sort» ⟨[.ref (s.heap.objs.size + 1)], kw⟩) (fun f s' => f = .done (.ret .none) ∧ Q (.ref (s.heap.objs.size + 1)) s') E' { s with heap := copyHeap s.heap vs }) :
    wpAny (model prog w) A (call (.builtin "sorted") [.ref l] kw) Q E s := by
  refine call_function_entry_kw kind_sorted plain_sorted entry_sorted ha1 ?_
  unfold Builtin.«sorted»
  refine wpAny_bind (m := checkCount "sorted" 1 1 _) (wpAny_pure ?_)
  refine wpAny_bind (collect_tup hl ?_ hL)
  refine wpAny_bind (wpAny_newList ?_ hL)
  have hsz : ((s.heap.push (seqObj "list" #[] 0)).update s.heap.objs.size (Obj.mapSeq (· ++ vs.toArray))).objs.size = s.heap.objs.size + 1 := by
    rw [Heap.size_update, size_push']
  show wpAny _ _ _ _ _ { s with heap := copyHeap s.heap vs }
  rw [hsz]
  refine wpAny_bind (wpAny_holding (wpAny_call_entry_kw slot_list_sort ⟨_, copyHeap_at s.heap vs, rfl⟩ entry_list_sort ?body (ha2 _)))
  case body =>
    show wpAny (model prog w) A.in1.in1 (Builtin.«list.sort» ⟨[.ref (s.heap.objs.size + 1)], kw⟩) _ _ _
    refine wpAny_mono (body _) (fun f s' hf => ?_) fun _ _ e => e
    obtain ⟨rfl, hq⟩ := hf
    exact ⟨_, rfl, wpAny_pure ⟨_, rfl, hq⟩⟩
theorem sorted_dataT {l : Addr} {Q : Value → Shared → Prop} (hl : PyProof.Rows.IsTup s.heap l vs.toArray) (e : EachIs R vs bs) (er : EachIs (fun v b => ∃ as, Reads s.heap v (enc b) as) vs bs) (hal : AllAlike (bs.map enc)) (hk : Sortable (bs.map enc)) (hL : bs.length ≤ sizeLine)
    (hu : ∀ b, b ∈ bs → A.units + 2 + (enc b).depth < cLine) (h : ∀ out, out.length = bs.length → EachIs R out (bs.mergeSort (dataLe false enc)) → Q (.ref (s.heap.objs.size + 1)) { s with heap := sortedAll s.heap vs (List.toArray out) }) :
    wpAny (model prog w) A (call (.builtin "sorted") [.ref l]) Q E s := by
  have er' : EachIs (fun v b => ∃ as, Reads (sortingHeap (copyHeap s.heap vs) (s.heap.objs.size + 1) vs) v (enc b) as) vs bs := er.mono fun _ _ ⟨as, r⟩ => ⟨as, PyProof.Rows.Reads.keeps (fun _ _ => sorting_copy_old) r⟩
  have hV : vs.length ≤ sizeLine := by rw [e.length]; exact hL
  exact sorted_of_sortT hl hV (args_sorted1 _) (fun _ => args_list_sort _) fun _ => list_sort_vals (s := { s with heap := copyHeap s.heap vs }) (copyHeap_at s.heap vs) (SortsAt.data (s := { s with heap := sortingHeap (copyHeap s.heap vs) (s.heap.objs.size + 1) vs }) (each_map (R := fun v d => ∃ as, Reads (sortingHeap (copyHeap s.heap vs) (s.heap.objs.size + 1) vs) v d as) enc er') hal hk (bound_map hu)) hV
    ⟨rfl, h _ (by rw [sortVals_length false rfl]; exact e.length) (sortVals_data false e er' hal)⟩
end
end PySem.W
namespace Dl
open PySem PySem.Spec PyProof.Rows L2
section
variable {X : Cx} {E : XK}
def gSortedU (ds : List PyData) : M Sl := match ds with
  | [.tuple l] => if srtOk l = true then .ok (.own (.list (srt l))) else .stuck
  | _ => .stuck
def rSortU2 (K : PySem.W.Frag) : List V → Hp → VK → Prop := fun vs H Q => ∃ (a : Addr) (xs : List V) (ds : List PyData) (B : Hp), vs = [.ref a] ∧ SqT K H a xs ∧ Ex B H ∧ RA K B xs ds ∧ srtOk ds = true ∧ ∀ (ys : List V) (p : Addr), RA K B ys (srt ds) → H p = none → Q (.ref p) (upd H p (.lst ys))
theorem cr_sortU2 (hu : X.A.units + 64 < cLine) : CallR X (.builtin "sorted") (rSortU2 X.K) := by
  intro pins s σ H vs us Q I r h
  obtain ⟨a, xs, ds, B, rfl, hs, ex, ra, ok, q⟩ := h
  obtain ⟨its, rv, hl, hz⟩ := I.tuple hs
  rw [Vals.ref1 r]
  obtain ⟨o1, o2, o3⟩ := srtOk_ok ok
  have hlen : ds.length ≤ sizeLine := by rw [← ra.length]; exact hz
  refine PySem.W.sorted_dataT (bs := ds) (enc := id) hl (each_of rv ra) (each_reads I ex rv ra fun d hd => (o3 d hd).1) (by rw [List.map_id]; exact o1) (by rw [List.map_id]; exact o2) hlen (fun d hd => ?_) fun out ho he => ?_
  · have := (o3 d hd).2
    show X.A.units + 2 + d.depth < cLine
    omega
  · obtain ⟨ys, y1, y2⟩ := of_each he
    obtain ⟨ep, he'⟩ := PyProof.Rows.sortedAll_at s.heap its out.toArray
    have hy : ys.length ≤ sizeLine := by rw [y1.length, ho]; exact hlen
    exact ⟨.ref _, upd H (s.heap.objs.size + 1) (.lst ys), I.laid (t' := s.toks) (fun _ _ => PyProof.Rows.sortedAll_old) (Nat.le_succ _) ⟨hy, out, ep, y1, he'⟩, rfl, q ys _ y2 (I.hok.fresh (Nat.le_succ _))⟩
theorem cd_sortU2 : CallD X E (rSortU2 X.K) gSortedU := by
  intro xs ds B H Q ex ra q
  unfold gSortedU at q
  split at q
  · rename_i l
    split at q
    · rename_i hok
      cases ra with
      | cons r t =>
        cases t
        cases r with
        | tup hh r2 => exact ⟨_, _, l, B, rfl, .of (ex _ _ hh), ex, r2, hok, fun ys p ry hp => EPost.own ex hp (.lst ry) q⟩
    · exact q.elim
  · exact q.elim
end
end Dl
/-! A comprehension within a comprehension. -/
/-! What is looked at behind the top's run, in less room: each object is met once. -/
/-! The top's run, looked at in two goes. -/
namespace Dl
open PySem PySem.Spec PyProof.Rows L2
section
variable {X : Cx} {E : XK}
/-! expressions round one that changes a slot's list -/
theorem mp_fin {K : PySem.W.Frag} {B0 H0 B B1 H1 : Hp} {σ : L2.St} {ρ1 : Env} {Q : VK} {r : M Sl} (re : ER K B0 H0 B1 H1 σ ρ1) (e1 : Ex B B1) (q : MPost K E B0 H0 B σ (r.bind fun z => .ok (z.d, ρ1)) Q) : EPost K E B1 H1 r Q := by
  cases r with
  | stuck => exact q.elim
  | exc x => exact fun H' e => q H' (re.gr.h.trans e)
  | ok sl =>
    intro v B2 H2 g2 r2
    obtain ⟨B3, g3, r3⟩ := r2.fix g2
    exact q v B3 H2 (e1.trans g3.b) (re.grow g3) r3
def mOp (g : PyData → PyData → M Sl) (m : Env → M (PyData × Env)) (fb : Env → M Sl) : Env → M (PyData × Env) := fun ρ => (m ρ).bind fun x => (fb x.2).bind fun y => (g x.1 y.d).bind fun z => .ok (z.d, x.2)
theorem run_mop {r : R2} {g : PyData → PyData → M Sl} {m : Env → M (PyData × Env)} {fb : Env → M Sl} {ta tb : TE} (hg : OpD X E r g)
    (ha : ∀ B0 H0 B H σ ρ Q, ER X.K B0 H0 B H σ ρ → MPost X.K E B0 H0 B σ (m ρ) Q → ta σ H Q) (hb : ∀ B0 H0 B H σ ρ Q, ER X.K B0 H0 B H σ ρ → EPost X.K E B H (fb ρ) Q → tb σ H Q) :
    ∀ B0 H0 B H σ ρ Q, ER X.K B0 H0 B H σ ρ → MPost X.K E B0 H0 B σ (mOp g m fb ρ) Q → tOp r ta tb σ H Q := by
  intro B0 H0 B H σ ρ Q re q
  refine ha B0 H0 B H σ ρ _ re ?_
  unfold mOp at q
  cases z : m ρ with
  | stuck => rw [z] at q; exact q.elim
  | exc x => rw [z] at q; exact q
  | ok y =>
    obtain ⟨d, ρ1⟩ := y
    rw [z] at q
    intro v B1 H1 e1 r1 rv
    refine hb B0 H0 B1 H1 σ ρ1 _ r1 ?_
    simp only [bind_ok] at q
    cases z2 : fb ρ1 with
    | stuck => rw [z2] at q; exact q.elim
    | exc x =>
      rw [z2] at q
      exact fun H' e => q H' (r1.gr.h.trans e)
    | ok sl =>
      rw [z2] at q
      simp only [bind_ok] at q
      intro u B2 H2 g2 r2
      obtain ⟨B2, g2, r2⟩ := r2.fix g2
      have re2 := r1.grow g2
      exact hg v u d sl.d B2 H2 Q g2.s (rv.mono g2.b) r2 (mp_fin re2 (e1.trans g2.b) q)
theorem dm_op {op : Operator} {r : R2} {g : PyData → PyData → M Sl} {m : Env → M (PyData × Env)} {fb : Env → M Sl} {a b : Expr} {pos : Pos} (ho : OpR X (binaryOp op) r) (hg : OpD X E r g) (ha : DM X E a m) (hb : DE X E b fb) : DM X E (.BinOp a op b pos) (mOp g m fb) := by
  obtain ⟨ta, pa, ha⟩ := ha
  obtain ⟨tb, pb, hb⟩ := hb
  exact ⟨_, pe_op ho pa pb, run_mop hg ha hb⟩
theorem dm_ix {m : Env → M (PyData × Env)} {fb : Env → M Sl} {a b : Expr} {pos : Pos} (ha : DM X E a m) (hb : DE X E b fb) (hs : PlainIx b) : DM X E (.Subscript a b pos) (mOp gIx m fb) := by
  obtain ⟨ta, pa, ha⟩ := ha
  obtain ⟨tb, pb, hb⟩ := hb
  exact ⟨_, pe_ix ix_seq pa pb hs, run_mop od_ix ha hb⟩
theorem run_mcall {r : List V → Hp → VK → Prop} {g : List PyData → M Sl} {f : Env → M (List PyData × Env)} {es : List Expr} {t : TA} (hg : CallD X E r g)
    (h : ∀ B0 H0 B H σ ρ (Q : List V → Hp → Prop), ER X.K B0 H0 B H σ ρ →
  (match f ρ with
    | .stuck => False
    | .exc x => ∀ H', Ex H0 H' → E (.ref (He.ga X.K x)) none H'
    | .ok (ds, ρ') => ∀ vs B' H', Ex B B' → ER X.K B0 H0 B' H' σ ρ' → RA X.K B' vs ds → Q vs H') → t σ H Q) :
    ∀ B0 H0 B H σ ρ Q, ER X.K B0 H0 B H σ ρ → MPost X.K E B0 H0 B σ (mCall g f ρ) Q → t σ H fun vs H1 => r vs H1 Q := by
  intro B0 H0 B H σ ρ Q re q
  refine h B0 H0 B H σ ρ _ re ?_
  unfold mCall at q
  cases z : f ρ with
  | stuck => rw [z] at q; exact q.elim
  | exc x => rw [z] at q; exact q
  | ok y =>
    obtain ⟨ds, ρ1⟩ := y
    rw [z] at q
    intro vs B1 H1 e1 r1 ra
    simp only [bind_ok] at q
    exact hg vs ds B1 H1 Q r1.gr.s ra (mp_fin r1 e1 q)
theorem dm_callB {x : Str} {p : Pos} {id : String} {r : List V → Hp → VK → Prop} {g : List PyData → M Sl} {f : Env → M (List PyData × Env)} {e : Expr} {es : List Expr} {pos : Pos} (hc : CallR X (.builtin id) r) (hg : CallD X E r g) (gl : Gl X x) (hm : X.mg x = none) (hv : bootBuiltins x = some (.builtin id)) (h : DAM X E (e :: es) f)
    (hn : x ≠ "__name__" := by decide) (hdb : (x == ("__debug__" : Str)) = false := by decide) (he : starEach (e :: es) X.env = (false, eval e X.env) :: starEach es X.env := by rfl) (hpl : (backTo pos (starEach es X.env)).any (·.1) = false := by rfl) :
    DM X E (.Call (.Name x p) (e :: es) [] pos) (mCall g f) := by
  obtain ⟨t, pt, h⟩ := h
  exact ⟨_, pe_callB hc gl hm hv pt hn hdb he hpl, run_mcall (es := e :: es) hg h⟩
theorem dm_callTy {x : Str} {p : Pos} {T : String} {r : List V → Hp → VK → Prop} {g : List PyData → M Sl} {f : Env → M (List PyData × Env)} {e : Expr} {es : List Expr} {pos : Pos} (hc : CallR X (.type T) r) (hg : CallD X E r g) (gl : Gl X x) (hm : X.mg x = none) (hv : bootBuiltins x = some (.type T)) (h : DAM X E (e :: es) f)
    (hn : x ≠ "__name__" := by decide) (hdb : (x == ("__debug__" : Str)) = false := by decide) (he : starEach (e :: es) X.env = (false, eval e X.env) :: starEach es X.env := by rfl) (hpl : (backTo pos (starEach es X.env)).any (·.1) = false := by rfl) :
    DM X E (.Call (.Name x p) (e :: es) [] pos) (mCall g f) := by
  obtain ⟨t, pt, h⟩ := h
  exact ⟨_, pe_callTy hc gl hm hv pt hn hdb he hpl, run_mcall (es := e :: es) hg h⟩
/-- arguments of which each may change a slot -/
def amConsM (f : Env → M (PyData × Env)) (g : Env → M (List PyData × Env)) : Env → M (List PyData × Env) := fun ρ => (f ρ).bind fun x => (g x.2).bind fun y => .ok (x.1 :: y.1, y.2)
theorem dam_consM {e : Expr} {es : List Expr} {m : Env → M (PyData × Env)} {gs : Env → M (List PyData × Env)} (h : DM X E e m) (k : DAM X E es gs) (hs : starEach (e :: es) X.env = (false, eval e X.env) :: starEach es X.env := by rfl) : DAM X E (e :: es) (amConsM m gs) := by
  obtain ⟨t, p, h⟩ := h
  obtain ⟨u, pu, k⟩ := k
  refine ⟨_, pa_cons p pu hs, fun B0 H0 B H σ ρ Q re q => ?_⟩
  refine h B0 H0 B H σ ρ _ re ?_
  unfold amConsM at q
  cases z : m ρ with
  | stuck => rw [z] at q; exact q.elim
  | exc x => rw [z] at q; exact q
  | ok y =>
    obtain ⟨d, ρ1⟩ := y
    rw [z] at q
    intro v B1 H1 e1 r1 rv
    refine k B0 H0 B1 H1 σ ρ1 _ r1 ?_
    simp only [bind_ok] at q
    cases z2 : gs ρ1 with
    | stuck => rw [z2] at q; exact q.elim
    | exc x => rw [z2] at q; exact q
    | ok y2 =>
      obtain ⟨ds, ρ2⟩ := y2
      rw [z2] at q
      exact fun vs B2 H2 e2 r2 ra => q (v :: vs) B2 H2 (e1.trans e2) r2 (.cons (rv.mono e2) ra)
def mTup (f : Env → M (List PyData × Env)) : Env → M (PyData × Env) := fun ρ => (f ρ).bind fun x => (if big x.1.length = true then M.ok (Sl.dat (.tuple x.1)) else .stuck).bind fun z => .ok (z.d, x.2)
theorem dm_tup {es : List Expr} {pos : Pos} {k : Nat} {f : Env → M (List PyData × Env)} (h : DAM X E es f) : DM X E (.Tuple es k pos) (mTup f) := by
  obtain ⟨t, p, h⟩ := h
  refine ⟨_, pe_tup p, fun B0 H0 B H σ ρ Q re q => ?_⟩
  refine h B0 H0 B H σ ρ _ re ?_
  unfold mTup at q
  cases z : f ρ with
  | stuck => rw [z] at q; exact q.elim
  | exc x => rw [z] at q; exact q
  | ok y =>
    obtain ⟨ds, ρ1⟩ := y
    rw [z] at q
    intro vs B1 H1 e1 re1 r1
    simp only [bind_ok] at q
    have q := mp_fin re1 e1 q
    split at q
    · rename_i hb
      exact ⟨by rw [r1.length]; exact big_ok hb, fun p hp => q.new re1.gr.s hp (.tup upd_same (r1.mono (.new (re1.gr.s.back hp))))⟩
    · exact q.elim
end
end Dl
/-! The data layer: xs.extend(t) of a tuple. -/
namespace Dl
open PySem PySem.Spec PyProof.Rows L2
section
variable {X : Cx} {E : XK}
set_option maxRecDepth 8000 in
theorem list_extend_tup (l : Addr) (items : Array Value) (n : Nat) (b : Addr) (items2 : Array Value) (n2 : Nat) (o : Obj) (hs0 : ¬(!items.isEmpty && Builtin.List.listTooLong (items.size + items2.size)) = true) (hs1 : items.size ≤ sizeLine) (hs2 : items.size + items2.size ≤ sizeLine + 1) (hoc : o.cls = .type "tuple") (hod : o.data = .seq items2 n2) :
    Meets (Builtin.«list.extend» ⟨[.ref l, .ref b], []⟩) (fun _ R s => s.heap.get? l = some { cls := .type "list", dict := none, data := .seq items n, slots := #[] } ∧ s.heap.get? b = some o ∧ R (.ok (.ret Value.none)) { s with heap := s.heap.update l (Obj.mapSeq fun x => x ++ items2), toks := s.toks }) :=
  .of_wp fun prog w A R s h => by
    obtain ⟨cls, dict, data, slots⟩ := o
    cases hoc
    cases hod
    obtain ⟨hp, g, d, tk, os⟩ := s; obtain ⟨hl, hb, h⟩ := h; have f1 := AutoSeq1.idx_int; have f2 := AutoSeq1.sub_tuple_tuple; have f3 := AutoSeq1.sub_list_list; have f4 := AutoSeq1.sub_tuple_list; have f5 := AutoSeq1.sub_list_tuple;
    have hz' : (items ++ items2).size ≤ sizeLine + 1 := by rw [Array.size_append]; exact hs2
    wp_walk using (wpAny_updateSeq hl rfl (hz := hs1) (_hz' := hz')), AutoSeq1.wpAny_loadPart' hl, AutoSeq1.wpAny_loadPart' hb; exact ⟨_, rfl, h⟩
def rExtendT : V → List V → Hp → VK → Prop := fun x vs H Q => ∃ l b xs zs, x = .ref l ∧ vs = [.ref b] ∧ H l = some (.lst xs) ∧ H b = some (.tup zs) ∧ xs.length + zs.length ≤ sizeLine ∧ Q .non (upd H l (.lst (xs ++ zs)))
theorem mt_extendT : MtM X "list.extend" rExtendT := by
  intro pins s σ H x vs v us Q I rx rv h
  obtain ⟨l, b, xs, zs, rfl, rfl, hH, hB, hz, q⟩ := h
  cases rx
  obtain ⟨u, rfl, ru⟩ := rv.one
  cases ru
  obtain ⟨z, its, n, r, hl, e⟩ := I.lstM hH
  obtain ⟨z2, its2, r2, o2, e2, e3, n2, e4⟩ := I.hok _ _ hB
  have hl2 := r2.length
  have hsz : its.toArray.size + its2.toArray.size ≤ sizeLine := by rw [List.size_toArray, List.size_toArray]; omega
  have hlong : ¬ (!its.toArray.isEmpty && Builtin.List.listTooLong (its.toArray.size + its2.toArray.size)) = true := by
    rw [notLongL hsz, Bool.and_false]
    exact Bool.false_ne_true
  refine call_meets F.slot_list_extend ⟨_, e, rfl⟩ F.entry_list_extend (F.args_list_extend_2 _ _)
    (list_extend_tup l its.toArray n b its2.toArray n2 o2 hlong (by rw [List.size_toArray]; omega) (by omega) e3 e4) ⟨e, e2, ?_⟩
  refine ⟨.non, _, I.lset (its' := its ++ its2) hH e (by simp) (r.append r2) ?_, rfl, q⟩
  rw [List.length_append]
  omega
def gExtendT (l ds : List PyData) : Option (List PyData × PyData) := match ds with
  | [.tuple m] => if big (l.length + m.length) = true then some (l ++ m, .none) else none
  | _ => none
theorem mut_extendT : MutU X rExtendT gExtendT := by
  intro p vs l xs ds l' d B H Q ho exb rl ra e k
  unfold gExtendT at e
  split at e
  · split at e
    · rename_i hb
      cases e
      cases ra with
      | cons r1 r2 =>
        cases r2
        cases r1 with
        | tup h1 r1 => exact ⟨p, _, vs, _, rfl, rfl, ho, exb _ _ h1, by rw [rl.length, r1.length]; exact big_ok hb, k _ _ (rl.append r1) .non⟩
    · cases e
  · cases e
end
end Dl
namespace Dl
open PySem PySem.Spec PyProof.Rows L2
def o_law_whole : Env → O :=
  (oRet (eAndV (eIsi "int" (eVar 0)) (eNotV (eIsi "bool" (eVar 0)))))
def f_law_whole : List PyData → M Sl := fnO 1 1 o_law_whole
def o_law_is_row : Env → O :=
  (oSeq (oIf (tOrF (tNotF (tOf (eIsi "tuple" (eVar 0)))) (tOf (eOp gNe (eCall gLen (aCons (eVar 0) aNil)) (eVar 1)))) (oRet (eC (.bool false))) oNx)
    (oSeq (oForE (iOf (eVar 0)) (bN 3) (oIf (tOrF (tNotF (tOf (eCall f_law_whole (aCons (eVar 3) aNil)))) (tOrF (tOf (eOp (gCmp .Lt) (eVar 3) (eC (.int 0)))) (tOf (eOp (gCmp .Gt) (eVar 3) (eVar 2))))) (oRet (eC (.bool false))) oNx))
    (oRet (eC (.bool true)))))
def f_law_is_row : List PyData → M Sl := fnO 3 4 o_law_is_row
def o_law_row : Env → O :=
  (oSeq (oSet 3 (eLst aNil))
    (oSeq (oIf (tOf (eOp (gCmp .GtE) (eVar 0) (eOp gPow (eC (.int 10)) (eC (.int 18))))) (oSeq (oSet 6 (eOp gSub (eVar 0) (eOp gPow (eC (.int 10)) (eC (.int 18)))))
    (oSeq (oForE (iAr (aCons (eVar 1) aNil) rng1Of) (bN 5) (oSeq (oMutS (mMut 3 gAppend (aCons (eOp gMod (eVar 6) (eVar 2)) aNil)))
    (oSet 6 (eOp gDiv (eVar 6) (eVar 2)))))
    (oRetV 3))) oNx)
    (oSeq (oSet 4 (eOp gMod (eVar 0) (eC (.int 2147483647))))
    (oSeq (oForE (iAr (aCons (eVar 1) aNil) rng1Of) (bN 5) (oSeq (oSet 4 (eOp gMod (eOp gAdd (eOp gAdd (eOp gMul (eVar 4) (eC (.int 48271))) (eC (.int 12345))) (eVar 5)) (eC (.int 2147483647))))
    (oSeq (oSet 7 (eOp gMod (eOp gDiv (eOp gMul (eVar 4) (eOp gAdd (eOp gMod (eVar 4) (eC (.int 65521))) (eC (.int 3)))) (eC (.int 1009))) (eC (.int 1000003))))
    (oMutS (mMut 3 gAppend (aCons (eOp gMod (eVar 7) (eVar 2)) aNil))))))
    (oRetV 3)))))
def f_law_row : List PyData → M Sl := fnO 3 8 o_law_row
def o_law_cell : Env → O :=
  (oSeq (oIf (tOf (eOp (gCmp .Lt) (eVar 1) (eCall gLen (aCons (eVar 0) aNil)))) (oRet (eOp gIx (eVar 0) (eVar 1))) oNx)
    (oRet (eC (.int 0))))
def f_law_cell : List PyData → M Sl := fnO 2 2 o_law_cell
def o_changed_mark : Env → O :=
  (oSeq (oIf (tOf (eOp gEq (eVar 0) (eC (.int 2)))) (oRet (eC (.int 2))) oNx)
    (oRet (eOp gMod (eOp gAdd (eVar 0) (eVar 1)) (eC (.int 2)))))
def f_changed_mark : List PyData → M Sl := fnO 2 2 o_changed_mark
def o_against : Env → O :=
  (oRet (eCall gTuple (aCons (eLc (iAr (aCons (eVar 0) (aCons (eVar 1) aNil)) zipOf) [2, 3] (bTup 2 (bCons (bN 2) (bCons (bN 3) bNil))) (fun _ => .ok true) (eCall f_changed_mark (aCons (eVar 2) (aCons (eVar 3) aNil)))) aNil)))
def f_against : List PyData → M Sl := fnO 2 4 o_against
def o_ways_of_mark : Env → O :=
  (oSeq (oIf (tOf (eOp gEq (eVar 0) (eC (.int 2)))) (oRet (eLst (aCons (eC (.int 0)) (aCons (eC (.int 1)) aNil)))) oNx)
    (oRet (eLst (aCons (eVar 0) aNil))))
def f_ways_of_mark : List PyData → M Sl := fnO 1 1 o_ways_of_mark
def o_shows : Env → O :=
  (oSeq (oIf (tAndF (tOf (eOp gEq (eOp gIx (eVar 0) (eVar 1)) (eC (.int 2)))) (tOf (eOp gEq (eOp gIx (eVar 0) (eVar 2)) (eC (.int 2))))) (oRet (eLst aNil)) oNx)
    (oSeq (oSet 3 (eLst aNil))
    (oSeq (oForE (iOf (eCall f_ways_of_mark (aCons (eOp gIx (eVar 0) (eVar 1)) aNil))) (bN 4) (oForE (iOf (eCall f_ways_of_mark (aCons (eOp gIx (eVar 0) (eVar 2)) aNil))) (bN 5) (oMutS (mMut 3 gAppend (aCons (eTup (aCons (eVar 4) (aCons (eVar 5) aNil))) aNil)))))
    (oRetV 3))))
def f_shows : List PyData → M Sl := fnO 3 6 o_shows
def o_pairs_of : Env → O :=
  (oSeq (oSet 1 (eLst aNil))
    (oSeq (oForE (iAr (aCons (eVar 0) aNil) enumOf) (bTup 2 (bCons (bN 2) (bCons (bN 3) bNil))) (oForE (iOf (eSl (eVar 0) (sSome (eOp gAdd (eVar 2) (eC (.int 1)))) sNone)) (bN 4) (oMutS (mMut 1 gAppend (aCons (eTup (aCons (eVar 3) (aCons (eVar 4) aNil))) aNil)))))
    (oRetV 1)))
def f_pairs_of : List PyData → M Sl := fnO 1 5 o_pairs_of
def o_has_all : Env → O :=
  (oRet (eCall (gAllAny fun bs => bs.all id) (aCons (eLc (fun _ => .ok [(fz [(.int 0), (.int 1)]), (fz [(.int 1), (.int 0)]), (fz [(.int 1), (.int 1)])]) [1] (bN 1) (fun _ => .ok true) (eOp gInT (eVar 1) (eVar 0))) aNil)))
def f_has_all : List PyData → M Sl := fnO 1 2 o_has_all
def o_shown_by : Env → O :=
  (oSeq (oSet 3 eNewT)
    (oSeq (oForE (iOf (eVar 0)) (bTup 2 (bCons (bN 4) (bCons (bN 5) bNil))) (oForE (iOf (eCall f_shows (aCons (eVar 5) (aCons (eVar 1) (aCons (eVar 2) aNil))))) (bN 6) (oIf (tPub (tOf (eOp gNotInT (eVar 6) (eVar 3)))) (oPutT 3 (eVar 4) (eVar 6)) oNx)))
    (oRetV 3)))
def f_shown_by : List PyData → M Sl := fnO 3 7 o_shown_by
def o_barred_at : Env → O :=
  (oSeq (oSet 2 (eLc (iOf (eVar 0)) [5] (bN 5) (fun _ => .ok true) (eTup (aCons (eC (.str "")) (aCons (eCall f_against (aCons (eVar 5) (aCons (eVar 1) aNil))) aNil)))))
    (oSeq (oForE (iOf (eCall f_pairs_of (aCons (eLstRg1 (eCall gLen (aCons (eVar 1) aNil))) aNil))) (bTup 2 (bCons (bN 3) (bCons (bN 4) bNil))) (oFix [2] (oIf (tOf (eCall f_has_all (aCons (eCall f_shown_by (aCons (eVar 2) (aCons (eVar 3) (aCons (eVar 4) aNil)))) aNil))) (oRet (eTup (aCons (eVar 3) (aCons (eVar 4) aNil)))) oNx)))
    (oRet (eC .none))))
def f_barred_at : List PyData → M Sl := fnO 2 6 o_barred_at
def o_is_borne : Env → O :=
  (oRet (eOp gIsN (eCall f_barred_at (aCons (eVar 0) (aCons (eVar 1) aNil))) (eC .none)))
def f_is_borne : List PyData → M Sl := fnO 2 2 o_is_borne
def o_law_flip : Env → O :=
  (oRet (eOp gAdd (eOp gAdd (eSl (eVar 0) sNone (sSome (eVar 1))) (eTup (aCons (eOp gSub (eC (.int 1)) (eOp gIx (eVar 0) (eVar 1))) aNil))) (eSl (eVar 0) (sSome (eOp gAdd (eVar 1) (eC (.int 1)))) sNone)))
def f_law_flip : List PyData → M Sl := fnO 2 2 o_law_flip
def o_law_grown : Env → O :=
  (oSeq (oSet 2 (eLst (aCons (eVar 0) aNil)))
    (oSeq (oSet 3 (eLstRg1 (eCall gLen (aCons (eVar 0) aNil))))
    (oSeq (oForE (iOf (eCall f_law_row (aCons (eVar 1) (aCons (eCall gLen (aCons (eVar 0) aNil)) (aCons (eC (.int 840)) aNil))))) (bN 4) (oSeq (oMutA 5 (mMut 3 gPopAt (aCons (ePub (eOp gMod (eVar 4) (eCall gLen (aCons (eVar 3) aNil)))) aNil)))
    (oSeq (oIf (tOf (eOp gEq (eOp gMod (eOp gDiv (eVar 4) (eC (.int 8))) (eC (.int 7))) (eC (.int 6)))) oCt oNx)
    (oIf (tPub (tAndF (tOf (eOp gEq (eOp gMod (eOp gDiv (eVar 4) (eC (.int 8))) (eC (.int 7))) (eC (.int 5)))) (tOf (eOp (gCmp .Gt) (eCall gLen (aCons (eVar 2) aNil)) (eC (.int 1)))))) (oMutS (mMutM 2 gAppend (amCons (mCall f_law_flip (amCons (mMut 2 gPop aNil) (aCons (eVar 5) aNil))) aNil))) (oMutS (mMut 2 gAppend (aCons (ePub (eCall f_law_flip (aCons (eOp gIx (eVar 2) (eOp gMod (eOp gDiv (eVar 4) (eC (.int 56))) (eCall gLen (aCons (eVar 2) aNil)))) (aCons (eVar 5) aNil)))) aNil)))))))
    (oRetV 2))))
def f_law_grown : List PyData → M Sl := fnO 2 6 o_law_grown
def o_unlike_rows : Env → O :=
  (oRet (eUn gSrtSet (eVar 0)))
def f_unlike_rows : List PyData → M Sl := fnO 1 1 o_unlike_rows
def o_parent_of : Env → O :=
  (oSeq (oForE (fun ρ => ((eVar 1) ρ).bind fun x => revRg x.d) (bN 2) (oIf (tOf (eCall (gAllAny fun bs => bs.all id) (aCons (eLc (iOf (eOp gIx (eOp gIx (eVar 0) (eVar 1)) (eC (.int 0)))) [3] (bN 3) (fun _ => .ok true) (eOp gIn (eVar 3) (eOp gIx (eOp gIx (eVar 0) (eVar 2)) (eC (.int 0))))) aNil))) (oRet (eOp gAdd (eVar 2) (eC (.int 1)))) oNx))
    (oRet (eC (.int 0))))
def f_parent_of : List PyData → M Sl := fnO 2 4 o_parent_of
def o_bearers : Env → O :=
  (oRet (eCall gTuple (aCons (eLc (iAr (aCons (eVar 0) aNil) enumOf) [3, 4] (bTup 2 (bCons (bN 3) (bCons (bN 4) bNil))) (tOf (eOp gNe (eOp gIx (eVar 4) (eVar 2)) (eOp gIx (eVar 1) (eVar 2)))) (eVar 3)) aNil)))
def f_bearers : List PyData → M Sl := fnO 3 5 o_bearers
def o_changes : Env → O :=
  (oSeq (oSet 2 eNewT)
    (oSeq (oForE (iAr (aCons (eCall gLen (aCons (eVar 1) aNil)) aNil) rng1Of) (bN 3) (oSeq (oSet 5 (eCall f_bearers (aCons (eVar 0) (aCons (eVar 1) (aCons (eVar 3) aNil)))))
    (oIf (tOf (eOp (gCmp .Gt) (eCall gLen (aCons (eVar 5) aNil)) (eC (.int 0)))) (oPutT 2 (ePub (eOp gAdd (eGet2T (eVar 2) (eVar 5) (eTup aNil)) (eTup (aCons (eVar 3) aNil)))) (ePub (eVar 5))) oNx)))
    (oSeq (oSet 4 (eCall gSorted (aCons (eLcIt 2 [5, 7] (bTup 2 (bCons (bN 5) (bCons (bN 7) bNil))) (fun _ => .ok true) (eTup (aCons (eOp gSub (eC (.int 0)) (eCall gLen (aCons (eVar 5) aNil))) (aCons (eOp gIx (eVar 7) (eC (.int 0))) (aCons (eVar 5) aNil))))) aNil)))
    (oFix [2, 4] (oRet (eLc (iOf (eVar 4)) [6, 3, 5] (bTup 3 (bCons (bN 6) (bCons (bN 3) (bCons (bN 5) bNil)))) (fun _ => .ok true) (eTup (aCons (eVar 5) (aCons (eOp gGetT (eVar 2) (eVar 5)) aNil)))))))))
def f_changes : List PyData → M Sl := fnO 2 8 o_changes
def o_tree_of : Env → O :=
  (oSeq (oIf (tNotF (tOf (eCall f_is_borne (aCons (eVar 0) (aCons (eVar 1) aNil))))) (oExc "NoTree") oNx)
    (oSeq (oSet 2 (eCall f_changes (aCons (eCall f_unlike_rows (aCons (eVar 0) aNil)) (aCons (eVar 1) aNil))))
    (oSeq (oSet 3 (eLst (aCons (eTup (aCons (eC .none) (aCons (eTup aNil) aNil))) aNil)))
    (oSeq (oFix [2] (oForE (iAr (aCons (eCall gLen (aCons (eVar 2) aNil)) aNil) rng1Of) (bN 4) (oFix [2] (oMutS (mMut 3 gAppend (aCons (eTup (aCons (eCall f_parent_of (aCons (eVar 2) (aCons (eVar 4) aNil))) (aCons (eOp gIx (eOp gIx (eVar 2) (eVar 4)) (eC (.int 1))) aNil))) aNil))))))
    (oRetV 3)))))
def f_tree_of : List PyData → M Sl := fnO 2 5 o_tree_of
def o_law_is_tree : Env → O :=
  (oSeq (oIf (tOrF (tNotF (tOf (eIsi "list" (eVar 0)))) (tOrF (tOf (eOp gEq (eCall gLen (aCons (eVar 0) aNil)) (eC (.int 0)))) (tOf (eOp gNe (eOp gIx (eVar 0) (eC (.int 0))) (eTup (aCons (eC .none) (aCons (eTup aNil) aNil))))))) (oRet (eC (.bool false))) oNx)
    (oSeq (oSet 2 (eLst aNil))
    (oSeq (oForE (iOf (eVar 0)) (bN 3) (oIf (tOrF (tNotF (tOf (eIsi "tuple" (eVar 3)))) (tOrF (tOf (eOp gNe (eCall gLen (aCons (eVar 3) aNil)) (eC (.int 2)))) (tNotF (tOf (eIsi "tuple" (eOp gIx (eVar 3) (eC (.int 1)))))))) (oRet (eC (.bool false))) oNx))
    (oSeq (oForE (iAr (aCons (eC (.int 1)) (aCons (eCall gLen (aCons (eVar 0) aNil)) aNil)) rng2Of) (bN 4) (oSeq (oIf (tOrF (tNotF (tOf (eCall f_law_whole (aCons (eOp gIx (eOp gIx (eVar 0) (eVar 4)) (eC (.int 0))) aNil)))) (tOrF (tOf (eOp (gCmp .Lt) (eOp gIx (eOp gIx (eVar 0) (eVar 4)) (eC (.int 0))) (eC (.int 0)))) (tOf (eOp (gCmp .GtE) (eOp gIx (eOp gIx (eVar 0) (eVar 4)) (eC (.int 0))) (eVar 4))))) (oRet (eC (.bool false))) oNx)
    (oSeq (oIf (tOf (eOp gEq (eCall gLen (aCons (eOp gIx (eOp gIx (eVar 0) (eVar 4)) (eC (.int 1))) aNil)) (eC (.int 0)))) (oRet (eC (.bool false))) oNx)
    (oSeq (oForE (iOf (eOp gIx (eOp gIx (eVar 0) (eVar 4)) (eC (.int 1)))) (bN 5) (oSeq (oIf (tPub (tOrF (tNotF (tOf (eCall f_law_whole (aCons (eVar 5) aNil)))) (tOrF (tOf (eOp (gCmp .Lt) (eVar 5) (eC (.int 0)))) (tOrF (tOf (eOp (gCmp .GtE) (eVar 5) (eVar 1))) (tOf (eOp gIn (eVar 5) (eVar 2))))))) (oRet (eC (.bool false))) oNx)
    (oMutS (mMut 2 gAppend (aCons (eVar 5) aNil)))))
    (oIf (tOf (eOp gNe (eCall gList (aCons (eOp gIx (eOp gIx (eVar 0) (eVar 4)) (eC (.int 1))) aNil)) (eCall gSortedU (aCons (eOp gIx (eOp gIx (eVar 0) (eVar 4)) (eC (.int 1))) aNil)))) (oRet (eC (.bool false))) oNx)))))
    (oRet (eC (.bool true)))))))
def f_law_is_tree : List PyData → M Sl := fnO 2 6 o_law_is_tree
def o_law_rows_v3 : Env → O :=
  (oSeq (oSet 2 (eCall f_law_cell (aCons (eVar 0) (aCons (eVar 1) aNil))))
    (oSeq (oSet 3 (eOp gAdd (eC (.int 1)) (eOp gMod (eVar 2) (eC (.int 10)))))
    (oSeq (oSet 4 (eCall gTuple (aCons (eCall f_law_row (aCons (eCall f_law_cell (aCons (eVar 0) (aCons (eOp gAdd (eVar 1) (eC (.int 1))) aNil))) (aCons (eVar 3) (aCons (eC (.int 2)) aNil)))) aNil)))
    (oSeq (oSet 5 (eCall f_law_grown (aCons (eVar 4) (aCons (eCall f_law_cell (aCons (eVar 0) (aCons (eOp gAdd (eVar 1) (eC (.int 2))) aNil))) aNil))))
    (oSeq (oSet 6 (eCall f_law_row (aCons (eCall f_law_cell (aCons (eVar 0) (aCons (eOp gAdd (eVar 1) (eC (.int 3))) aNil))) (aCons (eOp gMod (eOp gDiv (eVar 2) (eC (.int 10))) (eC (.int 15))) (aCons (eC (.int 27720)) aNil)))))
    (oSeq (oFix [5, 6] (oSet 7 (eLc (iOf (eVar 6)) [8] (bN 8) (fun _ => .ok true) (eOp gIx (eVar 5) (eOp gMod (eVar 8) (eCall gLen (aCons (eVar 5) aNil)))))))
    (oSeq (oIf (tOf (eOp gEq (eOp gMod (eOp gDiv (eVar 2) (eC (.int 150))) (eC (.int 3))) (eC (.int 1)))) (oFix [5, 7] (oSet 7 (eOp gAdd (eVar 7) (eVar 5)))) oNx)
    (oFix [7] (oRet (eTup (aCons (eVar 4) (aCons (eVar 7) aNil))))))))))))
def f_law_rows_v3 : List PyData → M Sl := fnO 2 9 o_law_rows_v3
def o_law_node_row : Env → O :=
  (oSeq (oSet 3 (eCall gList (aCons (eVar 1) aNil)))
    (oSeq (oWhile (tOf (eOp gNe (eVar 2) (eC (.int 0)))) (oSeq (oForE (iOf (eOp gIx (eOp gIx (eVar 0) (eVar 2)) (eC (.int 1)))) (bN 4) (oSetIx 3 (ePub (eOp gSub (eC (.int 1)) (eOp gIx (eVar 3) (eVar 4)))) (ePub (eVar 4))))
    (oSet 2 (eOp gIx (eOp gIx (eVar 0) (eVar 2)) (eC (.int 0))))) 100000)
    (oFix [3] (oRet (eCall gTuple (aCons (eVar 3) aNil))))))
def f_law_node_row : List PyData → M Sl := fnO 3 5 o_law_node_row
def o_row_at : Env → O :=
  (oSeq (oSet 3 (eLst aNil))
    (oSeq (oWhile (tOf (eOp gNe (eVar 2) (eC (.int 0)))) (oSeq (oMutS (mMut 3 gExtendT (aCons (eOp gIx (eOp gIx (eVar 0) (eVar 2)) (eC (.int 1))) aNil)))
    (oSet 2 (eOp gIx (eOp gIx (eVar 0) (eVar 2)) (eC (.int 0))))) 100000)
    (oFix [3] (oRet (eCall gTuple (aCons (eLc (iAr (aCons (eVar 1) aNil) enumOf) [4, 5] (bTup 2 (bCons (bN 4) (bCons (bN 5) bNil))) (fun _ => .ok true) (eIf (tOf (eOp gIn (eVar 4) (eVar 3))) (eOp gSub (eC (.int 1)) (eVar 5)) (eVar 5))) aNil))))))
def f_row_at : List PyData → M Sl := fnO 3 6 o_row_at
def o_node_of : Env → O :=
  (oSeq (oForE (iAr (aCons (eCall gLen (aCons (eVar 0) aNil)) aNil) rng1Of) (bN 3) (oIf (tOf (eOp gEq (eCall f_row_at (aCons (eVar 0) (aCons (eVar 1) (aCons (eVar 3) aNil)))) (eVar 2))) (oRet (eVar 3)) oNx))
    (oRet (eC .none)))
def f_node_of : List PyData → M Sl := fnO 3 4 o_node_of
def o_depth_of : Env → O :=
  (oSeq (oSet 2 (eC (.int 0)))
    (oSeq (oWhile (tOf (eOp gNe (eVar 1) (eC (.int 0)))) (oSeq (oAug 2 (eCall gLen (aCons (eOp gIx (eOp gIx (eVar 0) (eVar 1)) (eC (.int 1))) aNil)))
    (oSet 1 (eOp gIx (eOp gIx (eVar 0) (eVar 1)) (eC (.int 0))))) 100000)
    (oRet (eVar 2))))
def f_depth_of : List PyData → M Sl := fnO 2 3 o_depth_of
def o_between : Env → O :=
  (oSeq (oSet 3 eNewK)
    (oSeq (oSet 4 (eVar 1))
    (oSeq (oWhile (tOf (eOp gNotN (eVar 4) (eC .none))) (oSeq (oPutK 3 (eC (.bool true)) (eVar 4))
    (oSet 4 (eOp gIx (eOp gIx (eVar 0) (eVar 4)) (eC (.int 0))))) 100000)
    (oSeq (oSet 4 (eVar 2))
    (oSeq (oWhile (tPub (tOf (eOp gNotInK (eVar 4) (eVar 3)))) (oSet 4 (eOp gIx (eOp gIx (eVar 0) (eVar 4)) (eC (.int 0)))) 100000)
    (oRet (eOp gSub (eOp gAdd (eCall f_depth_of (aCons (eVar 0) (aCons (eVar 1) aNil))) (eCall f_depth_of (aCons (eVar 0) (aCons (eVar 2) aNil)))) (eOp gMul (eC (.int 2)) (eCall f_depth_of (aCons (eVar 0) (aCons (eVar 4) aNil)))))))))))
def f_between : List PyData → M Sl := fnO 3 5 o_between
def o_law_unlike : Env → O :=
  (oRet (eCall gLen (aCons (eLc (iAr (aCons (eCall gLen (aCons (eVar 0) aNil)) aNil) rng1Of) [2] (bN 2) (tOf (eOp gNe (eOp gIx (eVar 0) (eVar 2)) (eOp gIx (eVar 1) (eVar 2)))) (eVar 2)) aNil)))
def f_law_unlike : List PyData → M Sl := fnO 2 3 o_law_unlike
def o_law_by_hand : Env → O :=
  (oSeq (oSet 2 (eLst (aCons (eTup (aCons (eC .none) (aCons (eTup aNil) aNil))) aNil)))
    (oSeq (oSet 3 (eLstRg1 (eVar 1)))
    (oSeq (oForE (iOf (eCall f_law_row (aCons (eCall f_law_cell (aCons (eVar 0) (aCons (eC (.int 5)) aNil))) (aCons (eVar 1) (aCons (eC (.int 840)) aNil))))) (bN 4) (oSeq (oMutA 5 (mMut 3 gPopAt (aCons (ePub (eOp gMod (eVar 4) (eCall gLen (aCons (eVar 3) aNil)))) aNil)))
    (oIf (tPub (tAndF (tOf (eOp gEq (eOp gMod (eOp gDiv (eVar 4) (eC (.int 8))) (eC (.int 5))) (eC (.int 4)))) (tOf (eOp (gCmp .Gt) (eCall gLen (aCons (eVar 2) aNil)) (eC (.int 1)))))) (oMutS (mMutM 2 gAppend (amCons (mTup (amConsM (mLift (ePub (eOp gIx (eOp gIx (eVar 2) (eUn gNeg (eC (.int 1)))) (eC (.int 0))))) (amCons (mCall gTuple (amCons (mCall gSortedU (amCons (mOp gAdd (mOp gIx (mMut 2 gPop aNil) (eC (.int 1))) (eTup (aCons (eVar 5) aNil))) aNil)) aNil)) aNil))) aNil))) (oIf (tOf (eOp (gCmp .Gt) (eOp gMod (eOp gDiv (eVar 4) (eC (.int 8))) (eC (.int 5))) (eC (.int 0)))) (oMutS (mMut 2 gAppend (aCons (ePub (eTup (aCons (eOp gMod (eOp gDiv (eVar 4) (eC (.int 40))) (eCall gLen (aCons (eVar 2) aNil))) (aCons (eTup (aCons (eVar 5) aNil)) aNil)))) aNil))) oNx))))
    (oRetV 2))))
def f_law_by_hand : List PyData → M Sl := fnO 2 6 o_law_by_hand
def o_law_k23 : Env → O :=
  (oSeq (oAsg (eCall f_law_rows_v3 (aCons (eVar 0) (aCons (eC (.int 0)) aNil))) (bTup 2 (bCons (bN 9) (bCons (bN 10) bNil))))
    (oSeq (oSet 1 (eCall f_tree_of (aCons (eCall gList (aCons (eVar 10) aNil)) (aCons (eVar 9) aNil))))
    (oSeq (oIf (tOf (eOp gEq (eOp gMod (eCall f_law_cell (aCons (eVar 0) (aCons (eC (.int 4)) aNil))) (eC (.int 2))) (eC (.int 1)))) (oSet 1 (eCall f_law_by_hand (aCons (eVar 0) (aCons (eCall gLen (aCons (eVar 9) aNil)) aNil)))) oNx)
    (oSeq (oFix [1] (oIf (tNotF (tOf (eCall f_law_is_tree (aCons (eVar 1) (aCons (eCall gLen (aCons (eVar 9) aNil)) aNil))))) (oRet (eC (.bool false))) oNx))
    (oSeq (oFix [1] (oSet 2 (eCall gList (aCons (eVar 1) aNil))))
    (oSeq (oFix [1] (oSet 3 (eLc (iAr (aCons (eCall gLen (aCons (eVar 1) aNil)) aNil) rng1Of) [4] (bN 4) (fun _ => .ok true) (eCall f_law_node_row (aCons (eVar 1) (aCons (eVar 9) (aCons (eVar 4) aNil)))))))
    (oSeq (oFix [1] (oForE (iAr (aCons (eCall gLen (aCons (eVar 1) aNil)) aNil) rng1Of) (bN 4) (oSeq (oFix [2] (oSet 11 (eCall f_row_at (aCons (eVar 2) (aCons (eVar 9) (aCons (eVar 4) aNil))))))
    (oSeq (oFix [3] (oIf (tOrF (tNotF (tOf (eCall f_law_is_row (aCons (eVar 11) (aCons (eCall gLen (aCons (eVar 9) aNil)) (aCons (eC (.int 1)) aNil)))))) (tOf (eOp gNe (eVar 11) (eOp gIx (eVar 3) (eVar 4))))) (oRet (eC (.bool false))) oNx))
    (oSeq (oFix [2, 3] (oSet 12 (eCall f_node_of (aCons (eVar 2) (aCons (eVar 9) (aCons (eOp gIx (eVar 3) (eVar 4)) aNil))))))
    (oSeq (oIf (tOrF (tNotF (tOf (eCall f_law_whole (aCons (eVar 12) aNil)))) (tOf (eOp gNe (eVar 12) (eVar 4)))) (oRet (eC (.bool false))) oNx)
    (oSeq (oFix [2] (oSet 13 (eCall f_depth_of (aCons (eVar 2) (aCons (eVar 4) aNil)))))
    (oFix [3] (oIf (tOrF (tNotF (tOf (eCall f_law_whole (aCons (eVar 13) aNil)))) (tOf (eOp gNe (eVar 13) (eCall f_law_unlike (aCons (eVar 9) (aCons (eOp gIx (eVar 3) (eVar 4)) aNil)))))) (oRet (eC (.bool false))) oNx)))))))))
    (oSeq (oFix [1] (oSet 5 (eOp gMod (eCall f_law_cell (aCons (eVar 0) (aCons (eC (.int 6)) aNil))) (eCall gLen (aCons (eVar 1) aNil)))))
    (oSeq (oFix [1] (oSet 6 (eOp gMod (eCall f_law_cell (aCons (eVar 0) (aCons (eC (.int 7)) aNil))) (eCall gLen (aCons (eVar 1) aNil)))))
    (oSeq (oFix [2] (oSet 7 (eCall f_between (aCons (eVar 2) (aCons (eVar 5) (aCons (eVar 6) aNil))))))
    (oSeq (oFix [3] (oIf (tOrF (tNotF (tOf (eCall f_law_whole (aCons (eVar 7) aNil)))) (tOf (eOp gNe (eVar 7) (eCall f_law_unlike (aCons (eOp gIx (eVar 3) (eVar 5)) (aCons (eOp gIx (eVar 3) (eVar 6)) aNil)))))) (oRet (eC (.bool false))) oNx))
    (oSeq (oFix [1, 2] (oIf (tOrF (tOf (eOp gNe (eCall f_between (aCons (eVar 2) (aCons (eVar 6) (aCons (eVar 5) aNil)))) (eVar 7))) (tOrF (tOf (eOp gNe (eCall f_between (aCons (eVar 2) (aCons (eVar 5) (aCons (eVar 5) aNil)))) (eC (.int 0)))) (tOf (eOp gNe (eVar 2) (eVar 1))))) (oRet (eC (.bool false))) oNx))
    (oSeq (oSet 8 (eCall gTuple (aCons (eCall f_law_row (aCons (eCall f_law_cell (aCons (eVar 0) (aCons (eC (.int 8)) aNil))) (aCons (eCall gLen (aCons (eVar 9) aNil)) (aCons (eC (.int 2)) aNil)))) aNil)))
    (oSeq (oFix [3] (oIf (tOf (eOp gIn (eVar 8) (eVar 3))) (oFix [2, 3] (oRet (eOp gEq (eCall f_node_of (aCons (eVar 2) (aCons (eVar 9) (aCons (eVar 8) aNil)))) (eIndex (eVar 3) (eVar 8))))) oNx))
    (oFix [2] (oRet (eOp gIsN (eCall f_node_of (aCons (eVar 2) (aCons (eVar 9) (aCons (eVar 8) aNil)))) (eC .none))))))))))))))))))
def f_law_k23 : List PyData → M Sl := fnO 1 14 o_law_k23
end Dl
/-! Evaluation of meanings: one fact per operation. -/
namespace Dl
open PySem PySem.Spec PyProof.Rows L2
theorem oSeq_nx {f g : Env → O} {ρ ρ' : Env} (h : f ρ = .nx ρ') : oSeq f g ρ = g ρ' := by simp only [oSeq, h]
theorem oSeq_rt {f g : Env → O} {ρ : Env} {s : Sl} (h : f ρ = .rt s) : oSeq f g ρ = .rt s := by simp only [oSeq, h]
/-- not by mere unfolding: the kernel would look into the wrong side -/
theorem bindN_ok {α β : Type} {a : α} {f : α → M β} : (M.ok a).bind f = f a := (Eq.refl (f a)).trans (Eq.refl (f a))
theorem oOfN_ok {α : Type} {a : α} {k : α → O} : oOf (.ok a) k = k a := (Eq.refl (k a)).trans (Eq.refl (k a))
theorem oFor_nil {bd : PyData → Env → M Env} {body : Env → O} {ρ : Env} : oFor bd body [] ρ = .nx ρ := (Eq.refl (O.nx ρ)).trans (Eq.refl (O.nx ρ))
theorem oFor_cons {bd : PyData → Env → M Env} {body : Env → O} {d : PyData} {ds : List PyData} {ρ : Env} : oFor bd body (d :: ds) ρ = oOf (bd d ρ) fun ρ1 => match body ρ1 with
    | .nx ρ2 => oFor bd body ds ρ2
    | .ct ρ2 => oFor bd body ds ρ2
    | .bk ρ2 => .nx ρ2
    | .rt sl => .rt sl
    | .exc x => .exc x
    | .stuck => .stuck := by first | (rw [oFor]; done) | (rw [oFor]; rfl)
theorem seqN {f g : Env → O} {ρ ρ' : Env} {r : O} (h : f ρ = .nx ρ') (k : g ρ' = r) : oSeq f g ρ = r := by rw [oSeq_nx h]; exact k
theorem seqP {f g : Env → O} {ρ : Env} {r : O} (P : Env → Prop) (h : ∃ ρ', f ρ = .nx ρ' ∧ P ρ') (k : ∀ ρ', P ρ' → g ρ' = r) : oSeq f g ρ = r := by
  obtain ⟨ρ', h1, h2⟩ := h
  rw [oSeq_nx h1]
  exact k ρ' h2
theorem fixN {l : List Nat} {f : Env → O} {ρ : Env} {r : O} (k : f (fixs ρ l) = r) : oFix l f ρ = r := k
theorem fnO_rt {n m : Nat} {o : Env → O} {ds : List PyData} {sl : Sl} (h : ds.length = n) (k : o (ds.map (fun d => some (Sl.dat d)) ++ List.replicate (m - n) none) = .rt sl) : fnO n m o ds = .ok sl := by
  unfold fnO
  rw [if_pos h, k]
theorem ifN_t {t : Env → M Bool} {f g : Env → O} {ρ : Env} {r : O} (h : t ρ = .ok true) (k : f ρ = r) : oIf t f g ρ = r := by
  unfold oIf
  rw [h, oOf_ok, if_pos rfl]
  exact k
theorem ifN_f {t : Env → M Bool} {f g : Env → O} {ρ : Env} {r : O} (h : t ρ = .ok false) (k : g ρ = r) : oIf t f g ρ = r := by
  unfold oIf
  rw [h, oOf_ok, if_neg (by decide)]
  exact k
theorem forN {fi : Env → M (List PyData)} {bd : PyData → Env → M Env} {body : Env → O} {ρ : Env} {ds : List PyData} {r : O} (h : fi ρ = .ok ds) (k : oFor bd body ds ρ = r) : oForE fi bd body ρ = r := by
  unfold oForE
  rw [h, oOf_ok]
  exact k
theorem big_lt {n : Nat} (h : n ≤ 16777216) : big n = true := decide_eq_true h
theorem smallI_lt {i : Int} (h : -18446744073709551616 < i) (h2 : i < 18446744073709551616) : smallI i = true := decide_eq_true (by omega)
theorem gAdd_ii {i j : Int} : gAdd (.int i) (.int j) = retI (i + j) := rfl
theorem gAdd_tt {a b : List PyData} (h : a.length + b.length ≤ 16777216) : gAdd (.tuple a) (.tuple b) = .ok (.dat (.tuple (a ++ b))) := if_pos (big_lt h)
theorem gAdd_ll {a b : List PyData} (h : a.length + b.length ≤ 16777216) : gAdd (.list a) (.list b) = .ok (.own (.list (a ++ b))) := if_pos (big_lt h)
theorem gSub_ii {i j : Int} : gSub (.int i) (.int j) = retI (i - j) := rfl
theorem gMod_ii {i j : Int} (h : 0 < j) : gMod (.int i) (.int j) = retI (i % j) := if_pos h
theorem gDiv_ii {i j : Int} (h : 0 < j) (h2 : j < 18446744073709551616) : gDiv (.int i) (.int j) = retI (i / j) := if_pos ⟨h, h2⟩
theorem gMul_l {i j : Int} (h : -18446744073709551616 < i) (h2 : i < 18446744073709551616) : gMul (.int i) (.int j) = retI (i * j) := if_pos (Or.inl (smallI_lt h h2))
theorem gMul_r {i j : Int} (h : -18446744073709551616 < j) (h2 : j < 18446744073709551616) : gMul (.int i) (.int j) = retI (i * j) := if_pos (Or.inr (smallI_lt h h2))
theorem gPow_ii {i j : Int} (h : 0 ≤ j) (h2 : j ≤ 1000) (h3 : -18446744073709551616 < i) (h4 : i < 18446744073709551616) : gPow (.int i) (.int j) = retI (i ^ j.toNat) := if_pos ⟨h, h2, smallI_lt h3 h4⟩
theorem gNeg_i {i : Int} : gNeg (.int i) = retI (-i) := rfl
theorem gEq_ii {i j : Int} : gEq (.int i) (.int j) = retB (decide (i = j)) := rfl
theorem gNe_ii {i j : Int} : gNe (.int i) (.int j) = retB (!decide (i = j)) := rfl
theorem gEq_bb {i j : Bool} : gEq (.bool i) (.bool j) = retB (decide (i = j)) := rfl
theorem gNe_bb {i j : Bool} : gNe (.bool i) (.bool j) = retB (!decide (i = j)) := rfl
theorem gCmp_ii {op : CmpOp} {i j : Int} : gCmp op (.int i) (.int j) = retB (cmpI op i j) := rfl
theorem gIsN_n {d : PyData} : gIsN d .none = retB (isNoneD d) := rfl
theorem gNotN_n {d : PyData} : gNotN d .none = retB (!isNoneD d) := rfl
theorem gAppend_1 {l : List PyData} {d : PyData} (h : l.length + 1 ≤ 16777216) : gAppend l [d] = some (l ++ [d], .none) := if_pos (big_lt h)
theorem gLen_l {l : List PyData} : gLen [.list l] = retI l.length := rfl
theorem gLen_t {l : List PyData} : gLen [.tuple l] = retI l.length := rfl
theorem gLen_s {l : List PyData} : gLen [.dict [(.none, .list l)]] = retI l.length := rfl
theorem gTuple_l {l : List PyData} : gTuple [.list l] = .ok (.dat (.tuple l)) := rfl
theorem gTuple_t {l : List PyData} : gTuple [.tuple l] = .ok (.dat (.tuple l)) := rfl
theorem gList_l {l : List PyData} : gList [.list l] = .ok (.own (.list l)) := rfl
theorem gList_t {l : List PyData} : gList [.tuple l] = .ok (.own (.list l)) := rfl
theorem gMin2_ii {i j : Int} : gMin2 [.int i, .int j] = retI (if j < i then j else i) := rfl
theorem gMax2_ii {i j : Int} : gMax2 [.int i, .int j] = retI (if j > i then j else i) := rfl
theorem rngOk_lt {i : Int} (h : -1000000 ≤ i) (h2 : i ≤ 1000000) : rngOk i = true := decide_eq_true (by omega)
theorem rng1_i {j : Int} (h : -1000000 ≤ j) (h2 : j ≤ 1000000) : rng1Of [.int j] = .ok (rng 0 j.toNat) := if_pos (rngOk_lt h h2)
theorem rng2_i {i j : Int} (h : -1000000 ≤ j) (h2 : j ≤ 1000000) (h3 : -1000000 ≤ i) (h4 : i ≤ 1000000) : rng2Of [.int i, .int j] = .ok (rng i (j - i).toNat) := if_pos ⟨rngOk_lt h3 h4, rngOk_lt h h2⟩
theorem cut_to {l : List PyData} {i : Int} (h0 : 0 ≤ i) (h : i ≤ (l.length : Int)) : cutD l none (some i) = l.take i.toNat := by
  have : ¬ (i < 0) := by omega
  simp only [cutD, HT.sIx, this, if_false, List.drop_zero, Nat.sub_zero]
  rw [Nat.min_eq_left (by omega)]
theorem cut_from {l : List PyData} {i : Int} (h0 : 0 ≤ i) (h : i ≤ (l.length : Int)) : cutD l (some i) none = l.drop i.toNat := by
  have : ¬ (i < 0) := by omega
  simp only [cutD, HT.sIx, this, if_false]
  rw [Nat.min_eq_left (by omega)]
  exact List.take_of_length_le (by rw [List.length_drop]; omega)
theorem gSl_t {l : List PyData} {lo hi : Option Int} : gSl (.tuple l) lo hi = .ok (.dat (.tuple (cutD l lo hi))) := rfl
theorem gSl_l {l : List PyData} {lo hi : Option Int} : gSl (.list l) lo hi = .ok (.own (.list (cutD l lo hi))) := rfl
theorem atI_pos {l : List PyData} {k : Int} (h0 : 0 ≤ k) : atI l k = l[k.toNat]? := by
  have e : k = ((k.toNat : Nat) : Int) := by omega
  cases h : l[k.toNat]? with
  | some d => rw [e]; exact atI_nat h
  | none =>
    rw [List.getElem?_eq_none_iff] at h
    simp only [atI, ixN]
    have h1 : ¬ (k < (l.length : Int)) := by omega
    simp [h1, h0]
theorem gIx_l {l : List PyData} {k : Int} {d : PyData} (h : atI l k = some d) : gIx (.list l) (.int k) = .ok (.dat d) := by simp only [gIx, h]
theorem gIx_t {l : List PyData} {k : Int} {d : PyData} (h : atI l k = some d) : gIx (.tuple l) (.int k) = .ok (.dat d) := by simp only [gIx, h]
theorem gIx_s {l : List PyData} {k : Int} {d : PyData} (h : atI l k = some d) : gIx (.dict [(.none, .list l)]) (.int k) = .ok (.dat d) := by simp only [gIx, h]
theorem zipOf_l {a b : List PyData} : zipOf [.list a, .list b] = .ok (zipD a b) := rfl
theorem zipOf_t {a b : List PyData} : zipOf [.tuple a, .tuple b] = .ok (zipD a b) := rfl
theorem enumOf_l {a : List PyData} : enumOf [.list a] = .ok (enumD a) := rfl
theorem enumOf_t {a : List PyData} : enumOf [.tuple a] = .ok (enumD a) := rfl
theorem ncast0 : ((0 : Nat) : Int) = 0 := rfl
theorem ncast1 : ((1 : Nat) : Int) = 1 := rfl
theorem ncast2 : ((2 : Nat) : Int) = 2 := rfl
theorem ncast3 : ((3 : Nat) : Int) = 3 := rfl
theorem ncast4 : ((4 : Nat) : Int) = 4 := rfl
theorem ncast5 : ((5 : Nat) : Int) = 5 := rfl
theorem kit_int_int : kitB "int" "int" = some true := by decide +kernel
theorem isi_int_int {i : Int} : gIsi "int" (.int i) = retB true := by simp only [gIsi, tyName, kit_int_int]
theorem kit_int_bool : kitB "int" "bool" = some false := by decide +kernel
theorem isi_int_bool {i : Int} : gIsi "bool" (.int i) = retB false := by simp only [gIsi, tyName, kit_int_bool]
theorem kit_int_tuple : kitB "int" "tuple" = some false := by decide +kernel
theorem isi_int_tuple {i : Int} : gIsi "tuple" (.int i) = retB false := by simp only [gIsi, tyName, kit_int_tuple]
theorem kit_int_list : kitB "int" "list" = some false := by decide +kernel
theorem isi_int_list {i : Int} : gIsi "list" (.int i) = retB false := by simp only [gIsi, tyName, kit_int_list]
theorem kit_int_str : kitB "int" "str" = some false := by decide +kernel
theorem isi_int_str {i : Int} : gIsi "str" (.int i) = retB false := by simp only [gIsi, tyName, kit_int_str]
theorem kit_bool_int : kitB "bool" "int" = some true := by decide +kernel
theorem isi_bool_int {i : Bool} : gIsi "int" (.bool i) = retB true := by simp only [gIsi, tyName, kit_bool_int]
theorem kit_bool_bool : kitB "bool" "bool" = some true := by decide +kernel
theorem isi_bool_bool {i : Bool} : gIsi "bool" (.bool i) = retB true := by simp only [gIsi, tyName, kit_bool_bool]
theorem kit_bool_tuple : kitB "bool" "tuple" = some false := by decide +kernel
theorem isi_bool_tuple {i : Bool} : gIsi "tuple" (.bool i) = retB false := by simp only [gIsi, tyName, kit_bool_tuple]
theorem kit_bool_list : kitB "bool" "list" = some false := by decide +kernel
theorem isi_bool_list {i : Bool} : gIsi "list" (.bool i) = retB false := by simp only [gIsi, tyName, kit_bool_list]
theorem kit_bool_str : kitB "bool" "str" = some false := by decide +kernel
theorem isi_bool_str {i : Bool} : gIsi "str" (.bool i) = retB false := by simp only [gIsi, tyName, kit_bool_str]
theorem kit_tuple_int : kitB "tuple" "int" = some false := by decide +kernel
theorem isi_tuple_int {i : List PyData} : gIsi "int" (.tuple i) = retB false := by simp only [gIsi, tyName, kit_tuple_int]
theorem kit_tuple_bool : kitB "tuple" "bool" = some false := by decide +kernel
theorem isi_tuple_bool {i : List PyData} : gIsi "bool" (.tuple i) = retB false := by simp only [gIsi, tyName, kit_tuple_bool]
theorem kit_tuple_tuple : kitB "tuple" "tuple" = some true := by decide +kernel
theorem isi_tuple_tuple {i : List PyData} : gIsi "tuple" (.tuple i) = retB true := by simp only [gIsi, tyName, kit_tuple_tuple]
theorem kit_tuple_list : kitB "tuple" "list" = some false := by decide +kernel
theorem isi_tuple_list {i : List PyData} : gIsi "list" (.tuple i) = retB false := by simp only [gIsi, tyName, kit_tuple_list]
theorem kit_tuple_str : kitB "tuple" "str" = some false := by decide +kernel
theorem isi_tuple_str {i : List PyData} : gIsi "str" (.tuple i) = retB false := by simp only [gIsi, tyName, kit_tuple_str]
theorem kit_list_int : kitB "list" "int" = some false := by decide +kernel
theorem isi_list_int {i : List PyData} : gIsi "int" (.list i) = retB false := by simp only [gIsi, tyName, kit_list_int]
theorem kit_list_bool : kitB "list" "bool" = some false := by decide +kernel
theorem isi_list_bool {i : List PyData} : gIsi "bool" (.list i) = retB false := by simp only [gIsi, tyName, kit_list_bool]
theorem kit_list_tuple : kitB "list" "tuple" = some false := by decide +kernel
theorem isi_list_tuple {i : List PyData} : gIsi "tuple" (.list i) = retB false := by simp only [gIsi, tyName, kit_list_tuple]
theorem kit_list_list : kitB "list" "list" = some true := by decide +kernel
theorem isi_list_list {i : List PyData} : gIsi "list" (.list i) = retB true := by simp only [gIsi, tyName, kit_list_list]
theorem kit_list_str : kitB "list" "str" = some false := by decide +kernel
theorem isi_list_str {i : List PyData} : gIsi "str" (.list i) = retB false := by simp only [gIsi, tyName, kit_list_str]
theorem kit_str_int : kitB "str" "int" = some false := by decide +kernel
theorem isi_str_int {i : Str} : gIsi "int" (.str i) = retB false := by simp only [gIsi, tyName, kit_str_int]
theorem kit_str_bool : kitB "str" "bool" = some false := by decide +kernel
theorem isi_str_bool {i : Str} : gIsi "bool" (.str i) = retB false := by simp only [gIsi, tyName, kit_str_bool]
theorem kit_str_tuple : kitB "str" "tuple" = some false := by decide +kernel
theorem isi_str_tuple {i : Str} : gIsi "tuple" (.str i) = retB false := by simp only [gIsi, tyName, kit_str_tuple]
theorem kit_str_list : kitB "str" "list" = some false := by decide +kernel
theorem isi_str_list {i : Str} : gIsi "list" (.str i) = retB false := by simp only [gIsi, tyName, kit_str_list]
theorem kit_str_str : kitB "str" "str" = some true := by decide +kernel
theorem isi_str_str {i : Str} : gIsi "str" (.str i) = retB true := by simp only [gIsi, tyName, kit_str_str]
theorem kit_none_int : kitB "NoneType" "int" = some false := by decide +kernel
theorem isi_none_int : gIsi "int" .none = retB false := by simp only [gIsi, tyName, kit_none_int]
theorem kit_none_bool : kitB "NoneType" "bool" = some false := by decide +kernel
theorem isi_none_bool : gIsi "bool" .none = retB false := by simp only [gIsi, tyName, kit_none_bool]
theorem kit_none_tuple : kitB "NoneType" "tuple" = some false := by decide +kernel
theorem isi_none_tuple : gIsi "tuple" .none = retB false := by simp only [gIsi, tyName, kit_none_tuple]
theorem kit_none_list : kitB "NoneType" "list" = some false := by decide +kernel
theorem isi_none_list : gIsi "list" .none = retB false := by simp only [gIsi, tyName, kit_none_list]
theorem kit_none_str : kitB "NoneType" "str" = some false := by decide +kernel
theorem isi_none_str : gIsi "str" .none = retB false := by simp only [gIsi, tyName, kit_none_str]
def fixS (x : Option Sl) : Option Sl := match x with
  | some (.own d) => some (.dat d)
  | x => x
theorem fix_get (ρ : Env) (i j : Nat) : (ρ.fix i)[j]? = if j = i then ρ[j]?.map fixS else ρ[j]? := by
  unfold Env.fix
  by_cases e : j = i
  · subst e
    rw [if_pos rfl]
    split
    · rename_i d h
      obtain ⟨hi, _⟩ := List.getElem?_eq_some_iff.mp h
      rw [List.getElem?_set_self hi, h]
      rfl
    · rename_i h
      cases h2 : ρ[j]? with
      | none => rfl
      | some x =>
        cases x with
        | none => rfl
        | some s =>
          cases s with
          | dat d => rfl
          | own d => exact absurd h2 (h d)
  · rw [if_neg e]
    split
    · rw [List.getElem?_set_ne (Ne.symm e)]
    · rfl
theorem fixs_app (ρ : Env) (l : List Nat) (i : Nat) : fixs ρ (l ++ [i]) = (fixs ρ l).fix i := by
  induction l generalizing ρ with
  | nil => rfl
  | cons a l ih => exact ih (ρ.fix a)
theorem fixs_range (ρ : Env) (n j : Nat) : (fixs ρ (List.range n))[j]? = if j < n then ρ[j]?.map fixS else ρ[j]? := by
  induction n with
  | zero => simp [fixs]
  | succ n ih =>
    rw [List.range_succ, fixs_app, fix_get, ih]
    by_cases e : j = n
    · subst e
      simp
    · rw [if_neg e]
      by_cases h : j < n
      · rw [if_pos h, if_pos (by omega)]
      · rw [if_neg h, if_neg (by omega)]
theorem fixAll_map (ρ : Env) : fixAll ρ = ρ.map fixS := by
  refine List.ext_getElem? fun j => ?_
  unfold fixAll
  rw [fixs_range, List.getElem?_map]
  by_cases h : j < ρ.length
  · rw [if_pos h]
  · rw [if_neg h, List.getElem?_eq_none (by omega)]
    rfl
theorem fixS_own (d : PyData) : fixS (some (.own d)) = some (.dat d) := rfl
theorem fixS_dat (d : PyData) : fixS (some (.dat d)) = some (.dat d) := rfl
theorem fixS_none : fixS none = none := rfl
theorem immA_ints (xs : List Int) : immA (xs.map PyData.int) = true := by
  induction xs with
  | nil => rfl
  | cons x xs ih => rw [List.map_cons, immA, ih]; rfl
theorem pubM_ok {sl : Sl} (h : immSl sl = true) : pubM (.ok sl) = .ok sl := if_pos h
theorem immSl_dat (d : PyData) : immSl (.dat d) = imm d := (Eq.refl (imm d)).trans (Eq.refl (imm d))
theorem imm_int (i : Int) : imm (.int i) = true := (Eq.refl true).trans (Eq.refl true)
theorem imm_bool (i : Bool) : imm (.bool i) = true := (Eq.refl true).trans (Eq.refl true)
theorem imm_tup (xs : List PyData) : imm (.tuple xs) = immA xs := (Eq.refl (immA xs)).trans (Eq.refl (immA xs))
end Dl
/-! Plain laws of the meanings: the base. -/
local macro_rules | `(tactic| walk_at "ev") => `(tactic| simp only [Dl.fnO, Dl.oSeq, Dl.gLen_s, Dl.oSet, Dl.oIf, Dl.oRet, Dl.oRetV, Dl.oRetN, Dl.oNx, Dl.oBk, Dl.oCt, Dl.oExp, Dl.oFix, Dl.fixs, Dl.Env.fix, Dl.oForE, Dl.oMutS, Dl.oMutA, Dl.oAsg, Dl.oSetIx, Dl.mMut, Dl.mMutM, Dl.mCall, Dl.mLift, Dl.amCons, Dl.eVar, Dl.eC, Dl.eOp, Dl.eUn, Dl.eIf, Dl.eAndV, Dl.eOrV, Dl.eNotV, Dl.eTup, Dl.eLst, Dl.eCall, Dl.eIsi, Dl.eChain, Dl.eSl, Dl.sNone, Dl.sSome, Dl.isI, Dl.isB, Dl.tOf, Dl.tAndF, Dl.tOrF, Dl.tNotF, Dl.aNil, Dl.aCons, Dl.iOf, Dl.iAr, Dl.itemsD, Dl.rng1_i, Dl.rng2_i,
  Dl.bN, Dl.bTup, Dl.bCons, Dl.bNil, Dl.oOfN_ok, Dl.oOf_exc, Dl.oOf_stuck, Dl.bindN_ok, Dl.bind_exc, Dl.bind_stuck, Dl.Sl.d_dat, Dl.Sl.d_own, Dl.gAdd_ii, Dl.gAdd_tt, Dl.gAdd_ll, Dl.gSub_ii, Dl.gMod_ii, Dl.gDiv_ii, Dl.gMul_l, Dl.gMul_r, Dl.gPow_ii, Dl.gNeg_i, Dl.gEq_ii, Dl.gNe_ii, Dl.gEq_bb, Dl.gNe_bb, Dl.gCmp_ii, Dl.cmpI, Dl.gIsN_n, Dl.gNotN_n, Dl.isNoneD, Dl.gAppend_1, Dl.gLen_l, Dl.gLen_t, Dl.gTuple_l, Dl.gTuple_t, Dl.gList_l, Dl.gList_t, Dl.ePub, Dl.tPub, Dl.gMin2_ii, Dl.fixAll_map, Dl.fixS_own, Dl.fixS_dat, Dl.fixS_none, Dl.pubM_ok, Dl.immSl_dat, Dl.imm_int, Dl.imm_bool, Dl.imm_tup, Dl.immA_ints,  Dl.ncast0, Dl.ncast1, Dl.ncast2, Dl.ncast3, Dl.ncast4, Dl.ncast5, Dl.oFor_nil, Dl.oFor_cons, Dl.gSl_t, Dl.gSl_l,  Dl.eLc, Dl.wipeE, Dl.zipOf_l, Dl.zipOf_t, Dl.enumOf_l, Dl.enumOf_t,  Dl.isi_int_int, Dl.isi_int_bool, Dl.isi_int_tuple, Dl.isi_int_list, Dl.isi_int_str, Dl.isi_bool_int, Dl.isi_bool_bool, Dl.isi_bool_tuple, Dl.isi_bool_list, Dl.isi_bool_str, Dl.isi_tuple_int, Dl.isi_tuple_bool, Dl.isi_tuple_tuple, Dl.isi_tuple_list, Dl.isi_tuple_str, Dl.isi_list_int, Dl.isi_list_bool, Dl.isi_list_tuple, Dl.isi_list_list, Dl.isi_list_str, Dl.isi_str_int, Dl.isi_str_bool, Dl.isi_str_tuple, Dl.isi_str_list, Dl.isi_str_str, Dl.isi_none_int, Dl.isi_none_bool, Dl.isi_none_tuple, Dl.isi_none_list, Dl.isi_none_str, Dl.gMax2_ii,
  List.getElem?_cons_zero, List.getElem?_cons_succ, List.set_cons_zero, List.set_cons_succ, List.map_cons, List.map_nil, List.length_cons, List.length_nil, List.replicate_succ, List.replicate_zero, List.cons_append, List.nil_append, List.append_nil, Nat.reduceSub, Nat.reduceAdd, Nat.reduceEqDiff, if_true, if_false, ite_true, ite_false, Bool.false_eq_true, decide_eq_true_eq, Nat.zero_add, and_self, true_and, and_true, or_true, true_or, or_false, false_or, not_true_eq_false, not_false_eq_true, Bool.not_true, Bool.not_false, Bool.or_true, Bool.true_or, Bool.or_false, Bool.false_or, Bool.and_true, Bool.true_and, Bool.and_false, Bool.false_and, decide_true, decide_false, List.length_map, Dl.big, Int.reduceLT, Int.reduceLE, Int.reduceAdd, Int.reduceSub, Int.reduceMul, Int.reduceNeg, Int.reduceMod, Int.reduceDiv, Int.reduceToNat, Int.reducePow, Int.reduceEq, Nat.reduceLeDiff, ↓reduceIte, List.length_append, Bool.true_eq_false, Dl.retI, Dl.retB, Dl.retS])
local macro_rules | `(tactic| walk_at "st") => `(tactic| refine Dl.seqN (by walk_at "evs"; rfl) ?_)
local macro_rules | `(tactic| walk_at "evs") => `(tactic| simp only [*, Dl.fnO, Dl.oSeq, Dl.gLen_s, Dl.oSet, Dl.oIf, Dl.oRet, Dl.oRetV, Dl.oRetN, Dl.oNx, Dl.oBk, Dl.oCt, Dl.oExp, Dl.oFix, Dl.fixs, Dl.Env.fix, Dl.oForE, Dl.oMutS, Dl.oMutA, Dl.oAsg, Dl.oSetIx, Dl.mMut, Dl.mMutM, Dl.mCall, Dl.mLift, Dl.amCons, Dl.eVar, Dl.eC, Dl.eOp, Dl.eUn, Dl.eIf, Dl.eAndV, Dl.eOrV, Dl.eNotV, Dl.eTup, Dl.eLst, Dl.eCall, Dl.eIsi, Dl.eChain, Dl.eSl, Dl.sNone, Dl.sSome, Dl.isI, Dl.isB, Dl.tOf, Dl.tAndF, Dl.tOrF, Dl.tNotF, Dl.aNil, Dl.aCons, Dl.iOf, Dl.iAr, Dl.itemsD, Dl.rng1_i, Dl.rng2_i,
  Dl.bN, Dl.bTup, Dl.bCons, Dl.bNil, Dl.oOfN_ok, Dl.oOf_exc, Dl.oOf_stuck, Dl.bindN_ok, Dl.bind_exc, Dl.bind_stuck, Dl.Sl.d_dat, Dl.Sl.d_own, Dl.gAdd_ii, Dl.gAdd_tt, Dl.gAdd_ll, Dl.gSub_ii, Dl.gMod_ii, Dl.gDiv_ii, Dl.gMul_l, Dl.gMul_r, Dl.gPow_ii, Dl.gNeg_i, Dl.gEq_ii, Dl.gNe_ii, Dl.gEq_bb, Dl.gNe_bb, Dl.gCmp_ii, Dl.cmpI, Dl.gIsN_n, Dl.gNotN_n, Dl.isNoneD, Dl.gAppend_1, Dl.gLen_l, Dl.gLen_t, Dl.gTuple_l, Dl.gTuple_t, Dl.gList_l, Dl.gList_t, Dl.ePub, Dl.tPub, Dl.gMin2_ii, Dl.fixAll_map, Dl.fixS_own, Dl.fixS_dat, Dl.fixS_none, Dl.pubM_ok, Dl.immSl_dat, Dl.imm_int, Dl.imm_bool, Dl.imm_tup, Dl.immA_ints,  Dl.ncast0, Dl.ncast1, Dl.ncast2, Dl.ncast3, Dl.ncast4, Dl.ncast5, Dl.oFor_nil, Dl.oFor_cons, Dl.gSl_t, Dl.gSl_l,  Dl.eLc, Dl.wipeE, Dl.zipOf_l, Dl.zipOf_t, Dl.enumOf_l, Dl.enumOf_t,  Dl.isi_int_int, Dl.isi_int_bool, Dl.isi_int_tuple, Dl.isi_int_list, Dl.isi_int_str, Dl.isi_bool_int, Dl.isi_bool_bool, Dl.isi_bool_tuple, Dl.isi_bool_list, Dl.isi_bool_str, Dl.isi_tuple_int, Dl.isi_tuple_bool, Dl.isi_tuple_tuple, Dl.isi_tuple_list, Dl.isi_tuple_str, Dl.isi_list_int, Dl.isi_list_bool, Dl.isi_list_tuple, Dl.isi_list_list, Dl.isi_list_str, Dl.isi_str_int, Dl.isi_str_bool, Dl.isi_str_tuple, Dl.isi_str_list, Dl.isi_str_str, Dl.isi_none_int, Dl.isi_none_bool, Dl.isi_none_tuple, Dl.isi_none_list, Dl.isi_none_str, Dl.gMax2_ii,
  List.getElem?_cons_zero, List.getElem?_cons_succ, List.set_cons_zero, List.set_cons_succ, List.map_cons, List.map_nil, List.length_cons, List.length_nil, List.replicate_succ, List.replicate_zero, List.cons_append, List.nil_append, List.append_nil, Nat.reduceSub, Nat.reduceAdd, Nat.reduceEqDiff, if_true, if_false, ite_true, ite_false, Bool.false_eq_true, decide_eq_true_eq, Nat.zero_add, and_self, true_and, and_true, or_true, true_or, or_false, false_or, not_true_eq_false, not_false_eq_true, Bool.not_true, Bool.not_false, Bool.or_true, Bool.true_or, Bool.or_false, Bool.false_or, Bool.and_true, Bool.true_and, Bool.and_false, Bool.false_and, decide_true, decide_false, List.length_map, Dl.big, Int.reduceLT, Int.reduceLE, Int.reduceAdd, Int.reduceSub, Int.reduceMul, Int.reduceNeg, Int.reduceMod, Int.reduceDiv, Int.reduceToNat, Int.reducePow, Int.reduceEq, Nat.reduceLeDiff, ↓reduceIte, List.length_append, Bool.true_eq_false, Dl.retI, Dl.retB, Dl.retS])
namespace Dl
open PySem PySem.Spec PyProof.Rows L2
/-- the script -/
abbrev scr (ns : List Int) : PyData := .dict [(.none, .list (ns.map PyData.int))]
/-- a row -/
abbrev rowD (xs : List Int) : PyData := .tuple (xs.map PyData.int)
def cellAt (ns : List Int) (k : Nat) : Int := ns.getD k 0
/-! ### loops -/
theorem rng_length (lo : Int) (n : Nat) : (rng lo n).length = n := by simp [rng]
theorem rng_succ (k m : Nat) : rng (k : Int) (m + 1) = .int k :: rng ((k + 1 : Nat) : Int) m := by
  unfold rng
  rw [List.range_succ_eq_map, List.map_cons, List.map_map]
  refine congr (congrArg List.cons ?_) ?_
  · simp
  · refine List.map_congr_left fun i _ => ?_
    simp only [Function.comp, PyData.int.injEq]
    omega
theorem atI_map {xs : List Int} {k : Int} (h0 : 0 ≤ k) (h : k < (xs.length : Int)) : atI (xs.map PyData.int) k = some (.int (xs.getD k.toNat 0)) := by
  rw [atI_pos h0, List.getElem?_map, List.getD_eq_getElem?_getD, List.getElem?_eq_getElem (show k.toNat < xs.length by omega)]
  rfl
/-! ### cells and rows -/
theorem cell_spec (ns : List Int) (k : Int) (h0 : 0 ≤ k) : f_law_cell [scr ns, .int k] = .ok (.dat (.int (cellAt ns k.toNat))) := by
  unfold f_law_cell o_law_cell scr
  by_cases h : k < (ns.length : Int)
  · have := gIx_s (atI_map h0 h)
    walk_at "evs"
    rfl
  · walk_at "evs"
    simp only [cellAt]
    rw [List.getD_eq_getElem?_getD, List.getElem?_eq_none (by omega)]
    rfl
/-! ### laws of append loops -/
theorem row_loopA (c n s : Int) (hs : 0 < s) (hs2 : s < 18446744073709551616) (x4 x7 : Option Sl) (row : List Int) (ds : List PyData) (x5 : Option Sl) (rest : Int) (hb : row.length + ds.length ≤ 1000000) :
    ∃ new x5' rest', new.length = ds.length ∧ (∀ x ∈ new, 0 ≤ x ∧ x < s) ∧ oFor (bN 5) (oSeq (oMutS (mMut 3 gAppend (aCons (eOp gMod (eVar 6) (eVar 2)) aNil))) (oSet 6 (eOp gDiv (eVar 6) (eVar 2)))) ds
      [some (.dat (.int c)), some (.dat (.int n)), some (.dat (.int s)), some (.own (.list (row.map PyData.int))), x4, x5, some (.dat (.int rest)), x7] =
      .nx [some (.dat (.int c)), some (.dat (.int n)), some (.dat (.int s)), some (.own (.list ((row ++ new).map PyData.int))), x4, x5', some (.dat (.int rest')), x7] := by
  induction ds generalizing row x5 rest with
  | nil => exact ⟨[], x5, rest, rfl, fun x h => (nomatch h), by rw [List.append_nil]; rfl⟩
  | cons d ds ih =>
    obtain ⟨new, x5', rest', h1, h2, h3⟩ := ih (row ++ [rest % s]) (some (.dat d)) (rest / s) (by simp at hb ⊢; omega)
    refine ⟨rest % s :: new, x5', rest', by simp [h1], ?_, ?_⟩
    · intro x hx
      rcases List.mem_cons.mp hx with e | hx
      · rw [e]
        exact ⟨Int.emod_nonneg _ (by omega), Int.emod_lt_of_pos _ hs⟩
      · exact h2 x hx
    · unfold oFor
      have hbig : row.length + 1 ≤ 16777216 := by simp at hb; omega
      clear ih h1 h2
      walk_at "ev"
      walk_at "evs"
      rw [show row.map PyData.int ++ [PyData.int (rest % s)] = (row ++ [rest % s]).map PyData.int by simp, show row ++ rest % s :: new = (row ++ [rest % s]) ++ new by simp]
      exact h3
theorem row_loopB (c n s : Int) (hs : 0 < s) (hs2 : s < 18446744073709551616) (x6 : Option Sl) (row : List Int) (k : Nat) (m : Nat) (x5 x7 : Option Sl) (seed : Int) (h0 : 0 ≤ seed) (h1 : seed < 2147483647) (hb : row.length + m ≤ 1000000) (hk : k + m ≤ 1000000) :
    ∃ new seed' x5' x7', new.length = m ∧ (∀ x ∈ new, 0 ≤ x ∧ x < s) ∧ oFor (bN 5) (oSeq (oSet 4 (eOp gMod (eOp gAdd (eOp gAdd (eOp gMul (eVar 4) (eC (.int 48271))) (eC (.int 12345))) (eVar 5)) (eC (.int 2147483647))))
    (oSeq (oSet 7 (eOp gMod (eOp gDiv (eOp gMul (eVar 4) (eOp gAdd (eOp gMod (eVar 4) (eC (.int 65521))) (eC (.int 3)))) (eC (.int 1009))) (eC (.int 1000003))))
    (oMutS (mMut 3 gAppend (aCons (eOp gMod (eVar 7) (eVar 2)) aNil))))) (rng k m)
      [some (.dat (.int c)), some (.dat (.int n)), some (.dat (.int s)), some (.own (.list (row.map PyData.int))), some (.dat (.int seed)), x5, x6, x7] =
      .nx [some (.dat (.int c)), some (.dat (.int n)), some (.dat (.int s)), some (.own (.list ((row ++ new).map PyData.int))), some (.dat (.int seed')), x5', x6, x7'] := by
  induction m generalizing row k x5 x7 seed with
  | zero => exact ⟨[], seed, x5, x7, rfl, fun x h => (nomatch h), by rw [List.append_nil]; rfl⟩
  | succ m ih =>
    have hrng : rng (k : Int) (m + 1) = .int k :: rng ((k + 1 : Nat) : Int) m := rng_succ k m
    generalize hsd0 : (seed * 48271 + 12345 + k) % 2147483647 = sd
    have hsd : 0 ≤ sd ∧ sd < 2147483647 := hsd0 ▸ ⟨Int.emod_nonneg _ (by decide), Int.emod_lt_of_pos _ (by decide)⟩
    generalize hmx : sd * (sd % 65521 + 3) / 1009 % 1000003 = mx
    obtain ⟨new, seed', x5', x7', q1, q2, q3⟩ := ih (row ++ [mx % s]) (k + 1) (some (.dat (.int k))) (some (.dat (.int mx))) sd hsd.1 hsd.2 (by simp; omega) (by omega)
    refine ⟨mx % s :: new, seed', x5', x7', by simp [q1], ?_, ?_⟩
    · intro x hx
      rcases List.mem_cons.mp hx with e | hx
      · rw [e]
        exact ⟨Int.emod_nonneg _ (by omega), Int.emod_lt_of_pos _ hs⟩
      · exact q2 x hx
    · rw [hrng]
      unfold oFor
      have hbig : row.length + 1 ≤ 16777216 := by omega
      have s1 : -18446744073709551616 < seed ∧ seed < 18446744073709551616 := by omega
      have s2 : -18446744073709551616 < sd ∧ sd < 18446744073709551616 := by omega
      clear ih q1 q2 hrng h0 h1 hb hk hsd
      walk_at "ev"
      walk_at "evs"
      rw [show row ++ mx % s :: new = (row ++ [mx % s]) ++ new by simp, ← q3]
      simp only [List.map_append, List.map_cons, List.map_nil]
/-- a row drawn from a cell -/
theorem row_spec (c n s : Int) (hn : n ≤ 1000) (hn0 : -1000 ≤ n) (hs : 0 < s) (hs2 : s < 18446744073709551616) : ∃ row : List Int, row.length = n.toNat ∧ (∀ x ∈ row, 0 ≤ x ∧ x < s) ∧ f_law_row [.int c, .int n, .int s] = .ok (.own (.list (row.map PyData.int))) := by
  have hn1 : n ≤ 1000000 := by omega
  have hn2 : -1000000 ≤ n := by omega
  obtain ⟨new, x5, rest, a1, a2, a3⟩ := row_loopA c n s hs hs2 none none [] (rng 0 n.toNat) none (c - 1000000000000000000) (by rw [rng_length]; simp; omega)
  obtain ⟨new2, seed, x5', x7, b1, b2, b3⟩ := row_loopB c n s hs hs2 none [] 0 n.toNat none none (c % 2147483647) (Int.emod_nonneg _ (by decide)) (Int.emod_lt_of_pos _ (by decide)) (by simp; omega) (by omega)
  rw [rng_length] at a1
  simp only [List.map_nil, List.nil_append, Int.ofNat_zero] at a3 b3
  unfold f_law_row o_law_row
  by_cases hc : 1000000000000000000 ≤ c
  · refine ⟨new, a1, a2, ?_⟩
    clear b1 b2 b3 a1 a2
    walk_at "evs"
  · refine ⟨new2, b1, b2, ?_⟩
    clear a1 a2 a3 b1 b2
    walk_at "evs"
end Dl
/-! Plain laws of the meanings: data of whole numbers, loops over typed lists, rows. -/
namespace Dl
open PySem PySem.Spec PyProof.Rows L2
/-! ### data of whole numbers -/
def dn : Nat → PyData → Bool
  | _, .int _ => true
  | n + 1, .tuple xs => xs.all (dn n)
  | n + 1, .list xs => xs.all (dn n)
  | _, _ => false
theorem dn_int (n : Nat) (i : Int) : dn n (.int i) = true := by cases n <;> rfl
theorem dn_eqvAll {f g : PyData → Bool} : ∀ (xs ys : List PyData), (∀ x ∈ xs, ∀ y ∈ ys, f x = true → g y = true → (PyData.eqv x y = true ↔ x = y)) → xs.all f = true → ys.all g = true → (PyData.eqvAll xs ys = true ↔ xs = ys)
  | [], [], _, _, _ => by simp [PyData.eqvAll]
  | [], _ :: _, _, _, _ => by simp [PyData.eqvAll]
  | _ :: _, [], _, _, _ => by simp [PyData.eqvAll]
  | x :: xs, y :: ys, h, h1, h2 => by
    simp only [List.all_cons, Bool.and_eq_true] at h1 h2
    simp only [PyData.eqvAll, Bool.and_eq_true, List.cons.injEq, h x (List.mem_cons_self ..) y (List.mem_cons_self ..) h1.1 h2.1, dn_eqvAll xs ys (fun a ha b hb => h a (List.mem_cons_of_mem _ ha) b (List.mem_cons_of_mem _ hb)) h1.2 h2.2]
theorem dn_eqv : ∀ (n m : Nat) (d e : PyData), dn n d = true → dn m e = true → (PyData.eqv d e = true ↔ d = e) := by
  intro n
  induction n with
  | zero =>
    intro m d e h h2
    cases d <;> try (simp [dn] at h; done)
    cases m <;> cases e <;> first | (simp [dn] at h2; done) | (simp [PyData.eqv]; done)
  | succ n ih =>
    intro m d e h h2
    cases d <;> try (simp [dn] at h; done)
    all_goals (cases m <;> cases e <;> try (first | (simp [dn] at h2; done) | (simp [PyData.eqv]; done)))
    · simp only [PyData.eqv, PyData.list.injEq]
      exact dn_eqvAll _ _ (fun x _ y _ hx hy => ih _ x y hx hy) h h2
    · simp only [PyData.eqv, PyData.tuple.injEq]
      exact dn_eqvAll _ _ (fun x _ y _ hx hy => ih _ x y hx hy) h h2
theorem dn_all {f : PyData → Bool} {n : Nat} (hf : ∀ d, f d = true → d.canLay0 = true ∧ d.depth ≤ n) : ∀ xs : List PyData, xs.all f = true → PyData.canLayAll0 xs = true ∧ PyData.depthAll xs ≤ n
  | [], _ => ⟨rfl, Nat.zero_le _⟩
  | x :: xs, h => by
    simp only [List.all_cons, Bool.and_eq_true] at h
    have h1 := hf x h.1
    have h2 := dn_all hf xs h.2
    simp only [PyData.canLayAll0, PyData.depthAll, h1.1, h2.1, Bool.and_self, true_and]
    omega
theorem dn_lay : ∀ (n : Nat) (d : PyData), dn n d = true → d.canLay0 = true ∧ d.depth ≤ n := by
  intro n
  induction n with
  | zero =>
    intro d h
    cases d <;> first | (simp [dn] at h; done) | exact ⟨by simp [PyData.canLay0], by simp [PyData.depth]⟩
  | succ n ih =>
    intro d h
    cases d <;> try (first | (simp [dn] at h; done) | (constructor <;> (simp [PyData.canLay0, PyData.depth]; done)))
    all_goals
      have h2 := dn_all (n := n) ih _ h
      simp only [PyData.canLay0, PyData.depth]
      exact ⟨h2.1, by omega⟩
theorem dn_shaped {n : Nat} {d : PyData} (h : dn n d = true) (hn : n ≤ 64) : SeqAt.shaped d = true := by
  have := dn_lay n d h
  unfold SeqAt.shaped
  rw [this.1, Bool.true_and]
  exact decide_eq_true (by omega)
theorem gEqB_dn {n m : Nat} {d e : PyData} {p : Prop} [Decidable p] (h : dn n d = true) (h2 : dn m e = true) (hn : n ≤ 64) (hm : m ≤ 64) (hp : d = e ↔ p) : gEqB d e = .ok (decide p) := by
  have h3 := dn_eqv n m d e h h2
  have e2 : PyData.eqv d e = decide p := by
    by_cases q : p
    · rw [decide_eq_true q, h3.mpr (hp.mpr q)]
    · rw [decide_eq_false q]
      exact Bool.eq_false_iff.mpr fun z => q (hp.mp (h3.mp z))
  have k : SeqAt.shaped d = true ∧ SeqAt.shaped e = true := ⟨dn_shaped h hn, dn_shaped h2 hm⟩
  unfold gEqB
  split
  · rename_i i j
    have : (i = j) ↔ p := by rw [← hp]; simp
    simp only [this]
  · cases n <;> (simp [dn] at h; done)
  · cases n <;> (simp [dn] at h; done)
  · rw [if_pos k, e2]
theorem gEq_dn {n m : Nat} {d e : PyData} {p : Prop} [Decidable p] (h : dn n d = true) (h2 : dn m e = true) (hn : n ≤ 64) (hm : m ≤ 64) (hp : d = e ↔ p) : gEq d e = retB (decide p) := by unfold gEq; rw [gEqB_dn h h2 hn hm hp]; rfl
theorem gNe_dn {n m : Nat} {d e : PyData} {p : Prop} [Decidable p] (h : dn n d = true) (h2 : dn m e = true) (hn : n ≤ 64) (hm : m ≤ 64) (hp : d = e ↔ p) : gNe d e = retB (!decide p) := by unfold gNe; rw [gEqB_dn h h2 hn hm hp]; rfl
theorem dn_ints (n : Nat) (xs : List Int) : (xs.map PyData.int).all (dn n) = true := List.all_eq_true.mpr fun d hd => by
  obtain ⟨i, _, e⟩ := List.mem_map.mp hd
  rw [← e]
  exact dn_int n i
theorem dn_row (xs : List Int) : dn 1 (rowD xs) = true := dn_ints 0 xs
theorem dn_lst {α : Type} {n : Nat} {f : α → PyData} (h : ∀ a, dn n (f a) = true) (xs : List α) : dn (n + 1) (.list (xs.map f)) = true := List.all_eq_true.mpr fun d hd => by
  obtain ⟨i, _, e⟩ := List.mem_map.mp hd
  rw [← e]
  exact h i
theorem map_inj {α β : Type} {f : α → β} (h : ∀ a b, f a = f b → a = b) : ∀ {xs ys : List α}, xs.map f = ys.map f ↔ xs = ys
  | [], [] => by simp
  | [], _ :: _ => by simp
  | _ :: _, [] => by simp
  | x :: xs, y :: ys => by
    simp only [List.map_cons, List.cons.injEq, map_inj h]
    exact ⟨fun z => ⟨h _ _ z.1, z.2⟩, fun z => ⟨by rw [z.1], z.2⟩⟩
theorem int_inj (a b : Int) (h : PyData.int a = PyData.int b) : a = b := PyData.int.inj h
theorem row_inj {a b : List Int} : rowD a = rowD b ↔ a = b := by
  simp only [rowD, PyData.tuple.injEq, map_inj int_inj]
theorem gEq_row {a b : List Int} : gEq (rowD a) (rowD b) = retB (decide (a = b)) := gEq_dn (dn_row a) (dn_row b) (by decide) (by decide) row_inj
theorem gNe_row {a b : List Int} : gNe (rowD a) (rowD b) = retB (!decide (a = b)) := gNe_dn (dn_row a) (dn_row b) (by decide) (by decide) row_inj
/-! ### order of rows -/
def cmpL (op : CmpOp) : List Int → List Int → Bool
  | [], [] => cmpI op 0 0
  | [], _ :: _ => cmpI op 0 1
  | _ :: _, [] => cmpI op 1 0
  | x :: xs, y :: ys => if x = y then cmpL op xs ys else cmpI op x y
theorem eqv_row {a b : List Int} : PyData.eqv (rowD a) (rowD b) = true ↔ a = b := (dn_eqv 1 1 _ _ (dn_row a) (dn_row b)).trans row_inj
/-! ### loops over typed lists -/
theorem lcF_gen {α : Type} {bd : PyData → Env → M Env} {tt : Env → M Bool} {fe : Env → M Sl} {ρ : Env} {e : α → PyData} (p : α → Bool) (g : α → PyData) : ∀ (ls : List α), (∀ a ∈ ls, ∃ ρ1, bd (e a) ρ = .ok ρ1 ∧ tt ρ1 = .ok (p a) ∧ (p a = true → ∃ y, fe ρ1 = .ok y ∧ y.d = g a)) → lcF bd tt fe (ls.map e) ρ = .ok ((ls.filter p).map g)
  | [], _ => rfl
  | a :: ls, h => by
    obtain ⟨ρ1, h1, h2, h3⟩ := h a (List.mem_cons_self ..)
    have ih := lcF_gen p g ls fun b hb => h b (List.mem_cons_of_mem _ hb)
    rw [List.map_cons]
    unfold lcF
    rw [h1]
    simp only [noX, bind_ok, h2]
    cases hp : p a with
    | false => rw [if_neg (by decide), List.filter_cons_of_neg (by simp [hp])]; exact ih
    | true =>
      obtain ⟨y, h4, h5⟩ := h3 hp
      rw [if_pos rfl, h4, ih, List.filter_cons_of_pos hp]
      simp only [noX, bind_ok, List.map_cons, h5]
theorem lcF_map {α : Type} {bd : PyData → Env → M Env} {fe : Env → M Sl} {ρ : Env} {e : α → PyData} (g : α → PyData) (ls : List α) (h : ∀ a ∈ ls, ∃ ρ1, bd (e a) ρ = .ok ρ1 ∧ ∃ y, fe ρ1 = .ok y ∧ y.d = g a) : lcF bd (fun _ => .ok true) fe (ls.map e) ρ = .ok (ls.map g) := by
  have := lcF_gen (bd := bd) (tt := fun _ => .ok true) (fe := fe) (ρ := ρ) (e := e) (fun _ => true) g ls fun a ha => by
    obtain ⟨ρ1, h1, y, h2, h3⟩ := h a ha
    exact ⟨ρ1, h1, rfl, fun _ => ⟨y, h2, h3⟩⟩
  rwa [List.filter_eq_self.mpr fun _ _ => rfl] at this
theorem oFor_pre {α : Type} {bd : PyData → Env → M Env} {body : Env → O} {e : α → PyData} (P : List α → Env → Prop) (ls : List α) (ρ : Env) (h0 : P [] ρ)
    (st : ∀ pre a post ρ, ls = pre ++ a :: post → P pre ρ → ∃ ρ1 ρ2, bd (e a) ρ = .ok ρ1 ∧ (body ρ1 = .nx ρ2 ∨ body ρ1 = .ct ρ2) ∧ P (pre ++ [a]) ρ2) : ∃ ρ', oFor bd body (ls.map e) ρ = .nx ρ' ∧ P ls ρ' := by
  suffices H : ∀ (post pre : List α) (ρ : Env), ls = pre ++ post → P pre ρ → ∃ ρ', oFor bd body (post.map e) ρ = .nx ρ' ∧ P ls ρ' from H ls [] ρ rfl h0
  intro post
  induction post with
  | nil => exact fun pre ρ hl hp => ⟨ρ, rfl, by rw [hl, List.append_nil]; exact hp⟩
  | cons a post ih =>
    intro pre ρ hl hp
    obtain ⟨ρ1, ρ2, k1, k2, k3⟩ := st pre a post ρ hl hp
    obtain ⟨ρ', j1, j2⟩ := ih (pre ++ [a]) ρ2 (by rw [hl]; simp) k3
    refine ⟨ρ', ?_, j2⟩
    rw [List.map_cons]
    unfold oFor
    rw [k1, oOf_ok]
    rcases k2 with k2 | k2 <;> rw [k2] <;> exact j1
theorem rng_map (n : Nat) : rng 0 n = (List.range n).map fun (i : Nat) => PyData.int (i : Int) := by
  unfold rng
  exact List.map_congr_left fun i _ => by rw [Int.zero_add]
theorem zipD_ints (a b : List Int) : zipD (a.map PyData.int) (b.map PyData.int) = (a.zip b).map fun p => PyData.tuple [.int p.1, .int p.2] := by
  unfold zipD
  induction a generalizing b with
  | nil => rfl
  | cons x xs ih =>
    cases b with
    | nil => rfl
    | cons y ys => simp only [List.map_cons, List.zipWith_cons_cons, List.zip_cons_cons, ih]
end Dl
/-! Specs of the common defs. -/
namespace Dl
open PySem PySem.Spec PyProof.Rows L2
def seen (a b : List Int) : List Int := (a.zip b).map fun p => if p.1 = p.2 then p.1 else 2
theorem whole_spec (i : Int) : f_law_whole [.int i] = .ok (.dat (.bool true)) := by
  unfold f_law_whole o_law_whole
  walk_at "ev"
theorem is_row_spec (a : List Int) (n m : Int) (hn : (a.length : Int) = n) (hm : ∀ x ∈ a, 0 ≤ x ∧ x ≤ m) : f_law_is_row [rowD a, .int n, .int m] = .ok (.dat (.bool true)) := by
  unfold f_law_is_row o_law_is_row
  obtain ⟨ρ', k1, k2⟩ := oFor_pre (bd := bN 3) (body := oIf (tOrF (tNotF (tOf (eCall f_law_whole (aCons (eVar 3) aNil)))) (tOrF (tOf (eOp (gCmp .Lt) (eVar 3) (eC (.int 0)))) (tOf (eOp (gCmp .Gt) (eVar 3) (eVar 2))))) (oRet (eC (.bool false))) oNx) (e := PyData.int)
    (fun _ ρ => ∃ x, ρ = [some (.dat (rowD a)), some (.dat (.int n)), some (.dat (.int m)), x]) a [some (.dat (rowD a)), some (.dat (.int n)), some (.dat (.int m)), none] ⟨_, rfl⟩ fun pre x post ρ hl hp => by
      obtain ⟨z, rfl⟩ := hp
      have hx := hm x (by rw [hl]; simp)
      have h1 : ¬ (x < 0) := by omega
      have h2 : ¬ (m < x) := by omega
      have h3 := whole_spec x
      exact ⟨_, _, by walk_at "ev"; rfl, .inl (by walk_at "evs"; rfl), _, rfl⟩
  obtain ⟨x, rfl⟩ := k2
  walk_at "ev"
  walk_at "evs"
def pairUp (a b : List Int) : List Int × List Int := if cmpL .LtE a b = true then (a, b) else (b, a)
theorem seen_comm (a b : List Int) : seen a b = seen b a := by
  unfold seen
  induction a generalizing b with
  | nil => cases b <;> rfl
  | cons x xs ih =>
    cases b with
    | nil => rfl
    | cons y ys =>
      simp only [List.zip_cons_cons, List.map_cons, ih]
      by_cases h : x = y
      · simp [h]
      · simp [h, Ne.symm h, eq_comm]
theorem seen_length (a b : List Int) (h : b.length = a.length) : (seen a b).length = a.length := by simp [seen, h]
theorem seen_getD (a b : List Int) (h : b.length = a.length) (i : Nat) (hi : i < a.length) : (seen a b).getD i 0 = if a.getD i 0 = b.getD i 0 then a.getD i 0 else 2 := by
  have hz : i < (seen a b).length := by rw [seen_length a b h]; exact hi
  rw [List.getD_eq_getElem?_getD, List.getElem?_eq_getElem hz, List.getD_eq_getElem?_getD, List.getElem?_eq_getElem hi, List.getD_eq_getElem?_getD, List.getElem?_eq_getElem (show i < b.length by omega)]
  simp [seen]
theorem getDP {P : Int → Prop} (a : List Int) (h : ∀ x ∈ a, P x) (i : Nat) (hi : i < a.length) : P (a.getD i 0) := by
  rw [List.getD_eq_getElem?_getD, List.getElem?_eq_getElem hi]
  exact h _ (List.getElem_mem hi)
/-- a plain row -/
def plainR (a : List Int) : Prop := ∀ x ∈ a, 0 ≤ x ∧ x < 2
end Dl
/-! growing a tree -/
namespace Dl
open PySem PySem.Spec PyProof.Rows L2
def flipR (r : List Int) (m : Nat) : List Int := r.set m (1 - r.getD m 0)
theorem flip_spec (r : List Int) (m : Int) (h0 : 0 ≤ m) (hm : m < (r.length : Int)) (hl : r.length ≤ 1000000) : f_law_flip [rowD r, .int m] = .ok (.dat (rowD (flipR r m.toNat))) := by
  have hx := gIx_t (atI_map (xs := r) h0 hm)
  have s1 := cut_to (l := r.map PyData.int) h0 (by simp; omega)
  have s2 := cut_from (l := r.map PyData.int) (i := m + 1) (by omega) (by simp; omega)
  have t1 : ((r.map PyData.int).take m.toNat).length + 1 ≤ 16777216 := by simp; omega
  have t2 : ((r.map PyData.int).take m.toNat).length + 1 + ((r.map PyData.int).drop (m + 1).toNat).length ≤ 16777216 := by simp; omega
  have e : (r.map PyData.int).take m.toNat ++ [PyData.int (1 - r.getD m.toNat 0)] ++ (r.map PyData.int).drop (m + 1).toNat = (flipR r m.toNat).map PyData.int := by
    unfold flipR
    rw [List.set_eq_take_append_cons_drop, if_pos (by omega)]
    rw [show (m + 1).toNat = m.toNat + 1 by omega]
    simp
  unfold f_law_flip o_law_flip
  clear hl h0
  walk_at "evs"
/-! what the growing keeps -/
def pat (L : List (List Int)) (g : List Int) (i j : Nat) (x y : Bool) : Prop := ∃ r ∈ L, decide (r.getD i 0 ≠ g.getD i 0) = x ∧ decide (r.getD j 0 ≠ g.getD j 0) = y
def barL (L : List (List Int)) (g : List Int) (i j : Nat) : Prop := pat L g i j false true ∧ pat L g i j true false ∧ pat L g i j true true
structure Grown (g : List Int) (left : List Nat) (L : List (List Int)) : Prop where
  len : ∀ r ∈ L, r.length = g.length
  plain : ∀ r ∈ L, plainR r
  ne : L ≠ []
  nd : left.Nodup
  lt : ∀ m ∈ left, m < g.length
  same : ∀ m ∈ left, ∀ r ∈ L, r.getD m 0 = g.getD m 0
  free : ∀ i j, i ≠ j → ¬ barL L g i j
theorem flip_getD {r : List Int} {m k : Nat} (h : k ≠ m) : (flipR r m).getD k 0 = r.getD k 0 := by
  unfold flipR
  rw [List.getD_eq_getElem?_getD, List.getElem?_set_ne (Ne.symm h), List.getD_eq_getElem?_getD]
theorem flip_plain {r : List Int} {m : Nat} (h : plainR r) : plainR (flipR r m) := by
  intro x hx
  by_cases hm : m < r.length
  · rcases List.mem_or_eq_of_mem_set hx with hx | hx
    · exact h x hx
    · have := getDP r h m hm
      omega
  · unfold flipR at hx
    rw [List.set_eq_of_length_le (by omega)] at hx
    exact h x hx
/-- one more row, a flipped one of these -/
theorem Grown.step {g : List Int} {left : List Nat} {L M : List (List Int)} {r : List Int} {m k : Nat} (G : Grown g left L) (hk : left[k]? = some m) (hr : r ∈ L) (hM : ∀ x ∈ M, x ∈ L) : Grown g (left.eraseIdx k) (M ++ [flipR r m]) := by
  have hml : m ∈ left := List.mem_of_getElem? hk
  have hmg := G.lt m hml
  have hsub : ∀ x ∈ left.eraseIdx k, x ∈ left ∧ x ≠ m := by
    intro x hx
    refine ⟨List.mem_of_mem_eraseIdx hx, fun e => ?_⟩
    subst e
    have h1 := List.getElem?_eq_some_iff.mp hk
    obtain ⟨hk1, hk2⟩ := h1
    rw [List.mem_eraseIdx_iff_getElem?] at hx
    obtain ⟨i, hik, hi⟩ := hx
    exact hik ((List.getElem?_inj (List.getElem?_eq_some_iff.mp hi).1 G.nd).mp (by rw [hi, hk]))
  have hrl := G.len r hr
  refine ⟨?_, ?_, by simp, ?_, ?_, ?_, ?_⟩
  · intro x hx
    rcases List.mem_append.mp hx with hx | hx
    · exact G.len x (hM x hx)
    · rw [List.mem_singleton.mp hx]
      unfold flipR
      rw [List.length_set]
      exact hrl
  · intro x hx
    rcases List.mem_append.mp hx with hx | hx
    · exact G.plain x (hM x hx)
    · rw [List.mem_singleton.mp hx]
      exact flip_plain (G.plain r hr)
  · exact G.nd.sublist (List.eraseIdx_sublist ..)
  · exact fun x hx => G.lt x (hsub x hx).1
  · intro x hx y hy
    rcases List.mem_append.mp hy with hy | hy
    · exact G.same x (hsub x hx).1 y (hM y hy)
    · rw [List.mem_singleton.mp hy, flip_getD (hsub x hx).2]
      exact G.same x (hsub x hx).1 r hr
  · intro i j hij hb
    have old : ∀ {x y : Bool} {a b : Nat}, a ≠ m → b ≠ m → pat (M ++ [flipR r m]) g a b x y → pat L g a b x y := by
      rintro x y a b ha hb ⟨z, hz, h1, h2⟩
      rcases List.mem_append.mp hz with hz | hz
      · exact ⟨z, hM z hz, h1, h2⟩
      · rw [List.mem_singleton.mp hz, flip_getD ha] at h1
        rw [List.mem_singleton.mp hz, flip_getD hb] at h2
        exact ⟨r, hr, h1, h2⟩
    -- at m only the new row is unlike
    have only : ∀ {z : List Int}, z ∈ M ++ [flipR r m] → z.getD m 0 ≠ g.getD m 0 → z = flipR r m := by
      intro z hz hne
      rcases List.mem_append.mp hz with hz | hz
      · exact absurd (G.same m hml z (hM z hz)) hne
      · exact List.mem_singleton.mp hz
    by_cases hi : i = m
    · subst hi
      obtain ⟨_, ⟨z, hz, h1, h2⟩, ⟨w, hw, h3, h4⟩⟩ := hb
      have e1 := only hz (of_decide_eq_true h1)
      have e2 := only hw (of_decide_eq_true h3)
      rw [e1] at h2
      rw [e2, h2] at h4
      cases h4
    · by_cases hj : j = m
      · subst hj
        obtain ⟨⟨z, hz, h1, h2⟩, _, ⟨w, hw, h3, h4⟩⟩ := hb
        have e1 := only hz (of_decide_eq_true h2)
        have e2 := only hw (of_decide_eq_true h4)
        rw [e1] at h1
        rw [e2, h1] at h3
        cases h3
      · exact G.free i j hij ⟨old hi hj hb.1, old hi hj hb.2.1, old hi hj hb.2.2⟩
theorem Grown.skip {g : List Int} {left : List Nat} {L : List (List Int)} (k : Nat) (G : Grown g left L) : Grown g (left.eraseIdx k) L :=
  ⟨G.len, G.plain, G.ne, G.nd.sublist (List.eraseIdx_sublist ..), fun m hm => G.lt m (List.mem_of_mem_eraseIdx hm), fun m hm => G.same m (List.mem_of_mem_eraseIdx hm), G.free⟩
theorem Grown.start {g : List Int} (hg : plainR g) : Grown g (List.range g.length) [g] := by
  refine ⟨by simp, by simpa using hg, by simp, List.nodup_range, fun m hm => List.mem_range.mp hm, by simp, ?_⟩
  rintro i j _ ⟨⟨z, hz, _, h2⟩, _⟩
  rw [List.mem_singleton.mp hz] at h2
  simp at h2
/-! the walk -/
theorem eraseIdx_mapN {α β : Type} (f : α → β) : ∀ (l : List α) (k : Nat), (l.map f).eraseIdx k = (l.eraseIdx k).map f
  | [], _ => rfl
  | _ :: _, 0 => rfl
  | a :: l, k + 1 => by rw [List.map_cons, List.eraseIdx_cons_succ, List.eraseIdx_cons_succ, List.map_cons, eraseIdx_mapN f l k]
theorem popAt_spec {left : List Nat} {k : Int} (h0 : 0 ≤ k) (hk : k < (left.length : Int)) (hl : left.length ≤ 1000000) {d : Nat} (hd : left[k.toNat]? = some d) : gPopAt (left.map fun (i : Nat) => PyData.int (i : Int)) [.int k] = some ((left.eraseIdx k.toNat).map fun (i : Nat) => PyData.int (i : Int), .int (d : Int)) := by
  have hb : big left.length = true := big_lt (by omega)
  unfold gPopAt
  simp only [List.length_map, h0, hk, hb, and_self, if_true, List.getElem?_map, hd, Option.map_some]
  rw [eraseIdx_mapN]
theorem grown_spec (g : List Int) (c : Int) (hg : plainR g) (hl : g.length ≤ 1000) : ∃ (left : List Nat) (L : List (List Int)), L.length ≤ g.length + 1 ∧ Grown g left L ∧ f_law_grown [rowD g, .int c] = .ok (.own (.list (L.map rowD))) := by
  obtain ⟨st, s1, s2, s3⟩ := row_spec c g.length 840 (by omega) (by omega) (by omega) (by omega)
  rw [Int.toNat_natCast] at s1
  obtain ⟨ρ', k1, left, L, x4, x5, c1, c2, G, rfl⟩ := oFor_pre (bd := bN 4) (body := (oSeq (oMutA 5 (mMut 3 gPopAt (aCons (ePub (eOp gMod (eVar 4) (eCall gLen (aCons (eVar 3) aNil)))) aNil)))
    (oSeq (oIf (tOf (eOp gEq (eOp gMod (eOp gDiv (eVar 4) (eC (.int 8))) (eC (.int 7))) (eC (.int 6)))) oCt oNx)
    (oIf (tPub (tAndF (tOf (eOp gEq (eOp gMod (eOp gDiv (eVar 4) (eC (.int 8))) (eC (.int 7))) (eC (.int 5)))) (tOf (eOp (gCmp .Gt) (eCall gLen (aCons (eVar 2) aNil)) (eC (.int 1)))))) (oMutS (mMutM 2 gAppend (amCons (mCall f_law_flip (amCons (mMut 2 gPop aNil) (aCons (eVar 5) aNil))) aNil))) (oMutS (mMut 2 gAppend (aCons (ePub (eCall f_law_flip (aCons (eOp gIx (eVar 2) (eOp gMod (eOp gDiv (eVar 4) (eC (.int 56))) (eCall gLen (aCons (eVar 2) aNil)))) (aCons (eVar 5) aNil)))) aNil))))))) (e := PyData.int)
    (fun pre ρ => ∃ (left : List Nat) (L : List (List Int)) (x4 x5 : Option Sl), left.length + pre.length = g.length ∧ L.length ≤ pre.length + 1 ∧ Grown g left L ∧ ρ = [some (.dat (rowD g)), some (.dat (.int c)), some (.own (.list (L.map rowD))), some (.own (.list (left.map fun (i : Nat) => PyData.int (i : Int)))), x4, x5]) st
    [some (.dat (rowD g)), some (.dat (.int c)), some (.own (.list [rowD g])), some (.own (.list ((List.range g.length).map fun (i : Nat) => PyData.int (i : Int)))), none, none] ⟨List.range g.length, [g], none, none, by simp, by simp, Grown.start hg, rfl⟩ fun pre x post ρ hl2 hp => by
      obtain ⟨left, L, x4, x5, c1, c2, G, rfl⟩ := hp
      have c3 := congrArg List.length hl2
      simp at c3
      have hleft : 0 < (left.length : Int) := by omega
      have k0 : 0 ≤ x % (left.length : Int) := Int.emod_nonneg _ (by omega)
      have k1 : x % (left.length : Int) < left.length := Int.emod_lt_of_pos _ hleft
      generalize hk : x % (left.length : Int) = k at k0 k1
      have hd : ∃ d, left[k.toNat]? = some d := ⟨left[k.toNat]'(by omega), List.getElem?_eq_getElem (by omega)⟩
      obtain ⟨d, hd⟩ := hd
      have hp := popAt_spec k0 k1 (by omega) hd
      have hdg := G.lt d (List.mem_of_getElem? hd)
      have e1 : (left.eraseIdx k.toNat).length + (pre ++ [x]).length = g.length := by
        rw [List.length_eraseIdx, if_pos (by omega), List.length_append, List.length_singleton]
        omega
      have hLne : 0 < L.length := List.length_pos_iff.mpr G.ne
      have hm1 : (left.map fun (i : Nat) => PyData.int (i : Int)).length = left.length := List.length_map ..
      have q0 : (oMutA 5 (mMut 3 gPopAt (aCons (ePub (eOp gMod (eVar 4) (eCall gLen (aCons (eVar 3) aNil)))) aNil))) [some (.dat (rowD g)), some (.dat (.int c)), some (.own (.list (L.map rowD))), some (.own (.list (left.map fun (i : Nat) => PyData.int (i : Int)))), some (.dat (.int x)), x5] =
          .nx [some (.dat (rowD g)), some (.dat (.int c)), some (.own (.list (L.map rowD))), some (.own (.list ((left.eraseIdx k.toNat).map fun (i : Nat) => PyData.int (i : Int)))), some (.dat (.int x)), some (.dat (.int (d : Int)))] := by
        clear hl2 s1 s2 s3 G hdg e1 c1 c2 c3
        walk_at "evs"
      have hLl : L.length ≤ 2000 := by omega
      by_cases t6 : x / 8 % 7 = 6
      · refine ⟨_, [some (.dat (rowD g)), some (.dat (.int c)), some (.own (.list (L.map rowD))), some (.own (.list ((left.eraseIdx k.toNat).map fun (i : Nat) => PyData.int (i : Int)))), some (.dat (.int x)), some (.dat (.int (d : Int)))], rfl, .inr ?_, left.eraseIdx k.toNat, L, _, _, e1, by rw [List.length_append]; omega, G.skip _, rfl⟩
        rw [show ([some (.dat (rowD g)), some (.dat (.int c)), some (.own (.list (L.map rowD))), some (.own (.list (left.map fun (i : Nat) => PyData.int (i : Int)))), x4, x5] : Env).set 4 (some (.dat (.int x))) = [some (.dat (rowD g)), some (.dat (.int c)), some (.own (.list (L.map rowD))), some (.own (.list (left.map fun (i : Nat) => PyData.int (i : Int)))), some (.dat (.int x)), x5] from rfl]
        refine seqN q0 ?_
        clear q0 hp hd hl2 s1 s2 s3 G hdg e1 c1 c2 c3 hm1 hk
        walk_at "evs"
      · have E0 : ∀ (M : List (List Int)), (List.map rowD M).length = M.length := fun M => List.length_map ..
        have n1 : ((d : Nat) : Int) < (g.length : Int) := by omega
        by_cases t5 : x / 8 % 7 = 5 ∧ (1 : Int) < (L.length : Int)
        · obtain ⟨t5, t7⟩ := t5
          obtain ⟨L', r, rfl⟩ := (List.eq_nil_or_concat L).resolve_left G.ne
          rw [List.concat_eq_append] at *
          have hrl := G.len r (by simp)
          have hf := flip_spec r d (by omega) (by omega) (by omega)
          rw [Int.toNat_natCast] at hf
          have G2 := G.step (k := k.toNat) (r := r) (M := L') hd (by simp) (fun y hy => by simp [hy])
          have hpop : gPop ((L' ++ [r]).map rowD) [] = some (L'.map rowD, rowD r) := by
            unfold gPop
            simp [List.map_append]
          have hbl : (L'.map rowD).length + 1 ≤ 16777216 := by
            rw [List.length_map]
            simp at hLl
            omega
          refine ⟨_, [some (.dat (rowD g)), some (.dat (.int c)), some (.own (.list ((L' ++ [flipR r d]).map rowD))), some (.own (.list ((left.eraseIdx k.toNat).map fun (i : Nat) => PyData.int (i : Int)))), some (.dat (.int x)), some (.dat (.int (d : Int)))], rfl, .inl ?_, left.eraseIdx k.toNat, L' ++ [flipR r d], _, _, e1, by simp at c2 ⊢; omega, G2, rfl⟩
          rw [show ([some (.dat (rowD g)), some (.dat (.int c)), some (.own (.list ((L' ++ [r]).map rowD))), some (.own (.list (left.map fun (i : Nat) => PyData.int (i : Int)))), x4, x5] : Env).set 4 (some (.dat (.int x))) = [some (.dat (rowD g)), some (.dat (.int c)), some (.own (.list ((L' ++ [r]).map rowD))), some (.own (.list (left.map fun (i : Nat) => PyData.int (i : Int)))), some (.dat (.int x)), x5] from rfl]
          refine seqN q0 ?_
          clear q0 hp hd hl2 s1 s2 s3 G hdg e1 c1 c2 c3 hm1 hk hLl hLne G2 hrl k0 k1 E0 n1
          rw [List.length_append, List.length_singleton] at t7
          rw [List.length_map] at hbl
          refine seqN (ifN_f (by walk_at "evs") rfl) ?_
          refine ifN_t (by walk_at "evs") ?_
          rw [List.map_append, List.map_cons, List.map_nil] at hpop
          rw [List.map_append]
          clear t7
          walk_at "evs"
          simp only [List.map_append, List.map_cons, List.map_nil]
        · have y0 : 0 ≤ x / 56 % (L.length : Int) := Int.emod_nonneg _ (by omega)
          have y1 : x / 56 % (L.length : Int) < L.length := Int.emod_lt_of_pos _ (by omega)
          have hLz : (0 : Int) < (L.length : Int) := by omega
          generalize hy : x / 56 % (L.length : Int) = y at y0 y1
          obtain ⟨r, hr⟩ : ∃ r, L[y.toNat]? = some r := ⟨L[y.toNat]'(by omega), List.getElem?_eq_getElem (by omega)⟩
          have hrm := List.mem_of_getElem? hr
          have hrl := G.len r hrm
          have hix : gIx (.list (L.map rowD)) (.int y) = .ok (.dat (rowD r)) := gIx_l (by rw [atI_pos y0, List.getElem?_map, hr]; rfl)
          have hf := flip_spec r d (by omega) (by omega) (by omega)
          rw [Int.toNat_natCast] at hf
          have G2 := G.step (k := k.toNat) (r := r) (M := L) hd hrm (fun y hy => hy)
          have hbl : (L.map rowD).length + 1 ≤ 16777216 := by rw [List.length_map]; omega
          refine ⟨_, [some (.dat (rowD g)), some (.dat (.int c)), some (.own (.list ((L ++ [flipR r d]).map rowD))), some (.own (.list ((left.eraseIdx k.toNat).map fun (i : Nat) => PyData.int (i : Int)))), some (.dat (.int x)), some (.dat (.int (d : Int)))], rfl, .inl ?_, left.eraseIdx k.toNat, L ++ [flipR r d], _, _, e1, by simp; omega, G2, rfl⟩
          rw [show ([some (.dat (rowD g)), some (.dat (.int c)), some (.own (.list (L.map rowD))), some (.own (.list (left.map fun (i : Nat) => PyData.int (i : Int)))), x4, x5] : Env).set 4 (some (.dat (.int x))) = [some (.dat (rowD g)), some (.dat (.int c)), some (.own (.list (L.map rowD))), some (.own (.list (left.map fun (i : Nat) => PyData.int (i : Int)))), some (.dat (.int x)), x5] from rfl]
          refine seqN q0 ?_
          clear q0 hp hd hl2 s1 s2 s3 G hdg e1 c1 c2 c3 hm1 hk hLl hLne G2 hrl k0 k1 E0 n1 hrm hr y0 y1
          refine seqN (ifN_f (by walk_at "evs") rfl) ?_
          have hbl2 : L.length + 1 ≤ 16777216 := by rw [List.length_map] at hbl; exact hbl
          refine ifN_f ?_ ?_
          · by_cases t8 : x / 8 % 7 = 5
            · have t9 : ¬ ((1 : Int) < (L.length : Int)) := fun z => t5 ⟨t8, z⟩
              clear t5
              walk_at "evs"
            · clear t5
              walk_at "evs"
          · clear t5
            walk_at "evs"
            simp only [List.map_append, List.map_cons, List.map_nil]
  refine ⟨left, L, by omega, G, ?_⟩
  have h1 : (0 : Int) ≤ (g.length : Int) := by omega
  have h2 : (g.length : Int) ≤ 10000 := by omega
  have hr := rng_map g.length
  unfold f_law_grown o_law_grown
  refine fnO_rt rfl ?_
  refine seqN (by walk_at "ev"; rfl) ?_
  refine seqN (ρ' := [some (.dat (rowD g)), some (.dat (.int c)), some (.own (.list [rowD g])), some (.own (.list ((List.range g.length).map fun (i : Nat) => PyData.int (i : Int)))), none, none]) ?_ ?_
  · clear k1 s3 hg
    simp only [eLstRg1, oSet]
    walk_at "evs"
    rw [Int.toNat_natCast, hr]
  refine seqN (forN (by walk_at "evs") k1) ?_
  walk_at "ev"
end Dl
/-! rows against the founder -/
namespace Dl
open PySem PySem.Spec PyProof.Rows L2
def agM (x g : Int) : Int := if x = 2 then 2 else (x + g) % 2
def ag (a b : List Int) : List Int := (a.zip b).map fun p => agM p.1 p.2
theorem changed_spec (x g : Int) : f_changed_mark [.int x, .int g] = .ok (.dat (.int (agM x g))) := by
  unfold f_changed_mark o_changed_mark
  by_cases h : x = 2
  · walk_at "evs"
    simp only [agM, h, if_true]
  · walk_at "evs"
    simp only [agM, h, if_false]
theorem against_spec (a b : List Int) (h : a.length ≤ 1000000) : f_against [rowD a, rowD b] = .ok (.dat (rowD (ag a b))) := by
  have e := lcF_map (bd := bTup 2 (bCons (bN 2) (bCons (bN 3) bNil))) (fe := eCall f_changed_mark (aCons (eVar 2) (aCons (eVar 3) aNil))) (ρ := [some (.dat (rowD a)), some (.dat (rowD b)), none, none]) (e := fun p : Int × Int => PyData.tuple [.int p.1, .int p.2]) (fun p => .int (agM p.1 p.2)) (a.zip b) fun p _ => by
    have := changed_spec p.1 p.2
    exact ⟨_, by walk_at "ev"; rfl, _, by walk_at "evs"; rfl, rfl⟩
  have hb : (a.zip b).length ≤ 16777216 := by rw [List.length_zip]; omega
  unfold f_against o_against
  walk_at "ev"
  rw [zipD_ints, e]
  walk_at "evs"
  simp only [ag, rowD, List.map_map]
  rfl
theorem ag_length (a b : List Int) (h : b.length = a.length) : (ag a b).length = a.length := by simp [ag, h]
end Dl
/-! the law's split of a sight -/
namespace Dl
open PySem PySem.Spec PyProof.Rows L2
abbrev ipD (p : Int × Int) : PyData := .tuple [.int p.1, .int p.2]
end Dl
/-! k05 -/
namespace Dl
open PySem PySem.Spec PyProof.Rows L2
def ways (x : Int) : List Int := if x = 2 then [0, 1] else [x]
def showsL (x y : Int) : List (Int × Int) := if x = 2 ∧ y = 2 then [] else (ways x).flatMap fun a => (ways y).map fun b => (a, b)
theorem ways_spec (x : Int) : f_ways_of_mark [.int x] = .ok (.own (.list ((ways x).map PyData.int))) := by
  unfold f_ways_of_mark o_ways_of_mark
  by_cases h : x = 2
  · subst h
    walk_at "ev"
    rfl
  · walk_at "evs"
    simp only [ways, h, if_false]
    rfl
theorem three_of {x : Int} (h : 0 ≤ x ∧ x ≤ 2) : x = 0 ∨ x = 1 ∨ x = 2 := by omega
theorem shows_spec (s : List Int) (i j x y : Int) (hx : gIx (rowD s) (.int i) = .ok (.dat (.int x))) (hy : gIx (rowD s) (.int j) = .ok (.dat (.int y))) (mx : 0 ≤ x ∧ x ≤ 2) (my : 0 ≤ y ∧ y ≤ 2) :
    f_shows [rowD s, .int i, .int j] = .ok (.own (.list ((showsL x y).map ipD))) := by
  unfold f_shows o_shows
  refine fnO_rt rfl ?_
  have w1 := ways_spec x
  have w2 := ways_spec y
  rcases three_of mx with rfl | rfl | rfl <;> rcases three_of my with rfl | rfl | rfl <;> clear mx my <;> (try simp only [ways, show (0 : Int) ≠ 2 from by decide, show (1 : Int) ≠ 2 from by decide, if_true, if_false, List.map_cons, List.map_nil] at w1 w2) <;> walk_at "evs" <;> rfl
theorem sp_getD (s b : List Int) (h : b.length = s.length) (f : Int → Int → Int) (i : Nat) (hi : i < s.length) : ((s.zip b).map fun p => f p.1 p.2).getD i 0 = f (s.getD i 0) (b.getD i 0) := by
  have hz : i < ((s.zip b).map fun p => f p.1 p.2).length := by simp; omega
  rw [List.getD_eq_getElem?_getD, List.getElem?_eq_getElem hz, List.getD_eq_getElem?_getD, List.getElem?_eq_getElem hi, List.getD_eq_getElem?_getD, List.getElem?_eq_getElem (show i < b.length by omega)]
  simp
end Dl
/-! bars among rows -/
namespace Dl
open PySem PySem.Spec PyProof.Rows L2
theorem oFor_find {α : Type} {bd : PyData → Env → M Env} {body : Env → O} {e : α → PyData} (P : Env → Prop) (p : α → Bool) (out : α → Sl) : ∀ (ls : List α) (ρ : Env), P ρ →
    (∀ a ∈ ls, ∀ ρ, P ρ → ∃ ρ1, bd (e a) ρ = .ok ρ1 ∧ (p a = false → ∃ ρ2, (body ρ1 = .nx ρ2 ∨ body ρ1 = .ct ρ2) ∧ P ρ2) ∧ (p a = true → body ρ1 = .rt (out a))) →
    (∃ a, ls.find? p = some a ∧ oFor bd body (ls.map e) ρ = .rt (out a)) ∨ (ls.find? p = none ∧ ∃ ρ', oFor bd body (ls.map e) ρ = .nx ρ' ∧ P ρ')
  | [], ρ, h, _ => .inr ⟨rfl, ρ, rfl, h⟩
  | a :: ls, ρ, h, st => by
    obtain ⟨ρ1, h1, h2, h3⟩ := st a (List.mem_cons_self ..) ρ h
    rw [List.map_cons]
    cases hp : p a with
    | true =>
      refine .inl ⟨a, List.find?_cons_of_pos hp, ?_⟩
      unfold oFor
      rw [h1, oOf_ok, h3 hp]
    | false =>
      obtain ⟨ρ2, h4, h5⟩ := h2 hp
      have ih := oFor_find P p out ls ρ2 h5 fun b hb => st b (List.mem_cons_of_mem _ hb)
      rw [List.find?_cons_of_neg (by simp [hp])]
      have e1 : oFor bd body (e a :: ls.map e) ρ = oFor bd body (ls.map e) ρ2 := by
        conv => lhs; unfold oFor
        rw [h1, oOf_ok]
        rcases h4 with h4 | h4 <;> rw [h4]
      rw [e1]
      exact ih
/-! pairs of marks -/
abbrev npD (p : Nat × Nat) : PyData := .tuple [.int (p.1 : Int), .int (p.2 : Int)]
abbrev nD (i : Nat) : PyData := .int (i : Int)
def pairsL (n : Nat) : List (Nat × Nat) := (List.range n).flatMap fun k => ((List.range n).drop (k + 1)).map fun j => (k, j)
theorem mem_pairsL {n : Nat} {p : Nat × Nat} (h : p ∈ pairsL n) : p.1 < p.2 ∧ p.2 < n := by
  obtain ⟨k, hk, h⟩ := List.mem_flatMap.mp h
  obtain ⟨j, hj, rfl⟩ := List.mem_map.mp h
  obtain ⟨i, hi, e⟩ := List.mem_drop_iff_getElem.mp hj
  simp at e hi
  constructor
  · show k < j
    omega
  · show j < n
    omega
theorem enumD_range (n : Nat) : enumD ((List.range n).map nD) = (List.range n).map fun i => npD (i, i) := by
  unfold enumD
  refine List.ext_getElem (by simp) fun i h1 h2 => ?_
  simp
theorem pairs_spec (n : Nat) (hn : n ≤ 1000) : f_pairs_of [.list ((List.range n).map nD)] = .ok (.own (.list ((pairsL n).map npD))) := by
  obtain ⟨ρ', k1, acc, x2, x3, x4, h1, h2, rfl⟩ := oFor_pre (bd := bTup 2 (bCons (bN 2) (bCons (bN 3) bNil))) (body := oForE (iOf (eSl (eVar 0) (sSome (eOp gAdd (eVar 2) (eC (.int 1)))) sNone)) (bN 4) (oMutS (mMut 1 gAppend (aCons (eTup (aCons (eVar 3) (aCons (eVar 4) aNil))) aNil)))) (e := fun i => npD (i, i))
    (fun pre ρ => ∃ (acc : List (Nat × Nat)) (x2 x3 x4 : Option Sl), acc = pre.flatMap (fun k => ((List.range n).drop (k + 1)).map fun j => (k, j)) ∧ acc.length ≤ pre.length * 1000 ∧ ρ = [some (.dat (.list ((List.range n).map nD))), some (.own (.list (acc.map npD))), x2, x3, x4]) (List.range n)
    [some (.dat (.list ((List.range n).map nD))), some (.own (.list [])), none, none, none] ⟨[], _, _, _, rfl, by simp, rfl⟩ fun pre k post ρ hl hp => by
      obtain ⟨acc, x2, x3, x4, h1, h2, rfl⟩ := hp
      have hk : k < n := List.mem_range.mp (by rw [hl]; simp)
      have hpl : pre.length + 1 ≤ n := by
        have := congrArg List.length hl
        simp at this
        omega
      have hdl : ((List.range n).drop (k + 1)).length ≤ n := by simp
      obtain ⟨ρ', k1, x4', rfl⟩ := oFor_pre (bd := bN 4) (body := oMutS (mMut 1 gAppend (aCons (eTup (aCons (eVar 3) (aCons (eVar 4) aNil))) aNil))) (e := nD)
        (fun pre' ρ => ∃ x4, ρ = [some (.dat (.list ((List.range n).map nD))), some (.own (.list ((acc ++ pre'.map fun j => (k, j)).map npD))), some (.dat (nD k)), some (.dat (nD k)), x4]) ((List.range n).drop (k + 1))
        [some (.dat (.list ((List.range n).map nD))), some (.own (.list (acc.map npD))), some (.dat (nD k)), some (.dat (nD k)), x4] ⟨x4, by simp⟩ fun pre' j post' ρ hl' hp' => by
          obtain ⟨x4, rfl⟩ := hp'
          have hb : ((acc ++ pre'.map fun j => (k, j)).map npD).length + 1 ≤ 16777216 := by
            have h3 := congrArg List.length hl'
            rw [List.length_append, List.length_cons] at h3
            simp only [List.length_map, List.length_append]
            have : pre.length * 1000 ≤ 1000 * 1000 := Nat.mul_le_mul_right _ (by omega)
            omega
          refine ⟨_, [some (.dat (.list ((List.range n).map nD))), some (.own (.list ((acc ++ (pre' ++ [j]).map fun j => (k, j)).map npD))), some (.dat (nD k)), some (.dat (nD k)), some (.dat (nD j))], rfl, .inl ?_, some (.dat (nD j)), rfl⟩
          rw [List.map_append (f := fun j => (k, j)), ← List.append_assoc]
          generalize (acc ++ pre'.map fun j => (k, j)) = A at hb
          rw [List.length_map] at hb
          clear hl hl' h1 h2 hk hpl hdl hn
          walk_at "evs"
          simp only [List.map_append, List.map_cons, List.map_nil]
      refine ⟨_, [some (.dat (.list ((List.range n).map nD))), some (.own (.list ((acc ++ ((List.range n).drop (k + 1)).map fun j => (k, j)).map npD))), some (.dat (nD k)), some (.dat (nD k)), x4'], by walk_at "ev"; rfl, .inl ?_, acc ++ ((List.range n).drop (k + 1)).map (fun j => (k, j)), some (.dat (nD k)), some (.dat (nD k)), x4', by rw [h1, List.flatMap_append]; simp, ?_, rfl⟩
      · refine forN ?_ k1
        have s2 := cut_from (l := (List.range n).map nD) (i := (k : Int) + 1) (by omega) (by simp; omega)
        rw [show ((k : Int) + 1).toNat = k + 1 by omega] at s2
        clear k1 hl h1 h2 hpl hdl
        walk_at "evs"
        rw [List.map_drop]
      · rw [List.length_append, List.length_map, List.length_append, List.length_singleton]
        omega
  have h3 := enumD_range n
  unfold f_pairs_of o_pairs_of
  refine fnO_rt rfl ?_
  refine seqN (by walk_at "ev"; rfl) ?_
  refine seqN (forN (by walk_at "evs") k1) ?_
  rw [h1]
  walk_at "ev"
  rfl
/-! who shows what -/
abbrev tD (r : List Int) : PyData := .tuple [.str "", rowD r]
def kk (x y : Int) : List Key := [.inl x, .inl y]
abbrev dE (es : List (PyData × PyData)) : PyData := .dict ((.bool true, .none) :: es)
theorem gNotInT_ip (p : Int × Int) (es : List (PyData × PyData)) : gNotInT (ipD p) (dE es) = retB (!es.any (isK (kk p.1 p.2))) := rfl
theorem gInT_fz (p : Int × Int) (es : List (PyData × PyData)) : gInT (fz [.int p.1, .int p.2]) (dE es) = retB (es.any (isK (kk p.1 p.2))) := rfl
theorem kk_inj {a b x y : Int} : kk a b = kk x y ↔ a = x ∧ b = y := by
  unfold kk
  simp
def bears (r : List Int) (i j : Nat) (x y : Int) : Bool := decide (r.getD i 0 = x) && decide (r.getD j 0 = y)
theorem shown_spec (rows : List (List Int)) (n i j : Nat) (hi : i < n) (hj : j < n) (hr : ∀ r ∈ rows, r.length = n ∧ plainR r) (hl : rows.length ≤ 100000) :
    ∃ es, f_shown_by [.list (rows.map tD), .int (i : Int), .int (j : Int)] = .ok (.own (dE es)) ∧ ∀ x y, es.any (isK (kk x y)) = rows.any fun r => bears r i j x y := by
  obtain ⟨ρ', k1, es, x4, x5, x6, h1, h2, rfl⟩ := oFor_pre (bd := bTup 2 (bCons (bN 4) (bCons (bN 5) bNil))) (body := oForE (iOf (eCall f_shows (aCons (eVar 5) (aCons (eVar 1) (aCons (eVar 2) aNil))))) (bN 6) (oIf (tPub (tOf (eOp gNotInT (eVar 6) (eVar 3)))) (oPutT 3 (eVar 4) (eVar 6)) oNx)) (e := tD)
    (fun pre ρ => ∃ (es : List (PyData × PyData)) (x4 x5 x6 : Option Sl), es.length ≤ pre.length ∧ (∀ x y, es.any (isK (kk x y)) = pre.any fun r => bears r i j x y) ∧ ρ = [some (.dat (.list (rows.map tD))), some (.dat (.int (i : Int))), some (.dat (.int (j : Int))), some (.own (dE es)), x4, x5, x6]) rows
    [some (.dat (.list (rows.map tD))), some (.dat (.int (i : Int))), some (.dat (.int (j : Int))), some (.own dT0), none, none, none] ⟨[], _, _, _, by simp, fun x y => rfl, rfl⟩ fun pre r post ρ hl2 hp => by
      obtain ⟨es, x4, x5, x6, h1, h2, rfl⟩ := hp
      obtain ⟨hrl, hrp⟩ := hr r (by rw [hl2]; simp)
      have hpl : pre.length + 1 ≤ rows.length := by rw [hl2]; simp
      have gi := gIx_t (atI_map (xs := r) (k := i) (by omega) (by omega))
      have gj := gIx_t (atI_map (xs := r) (k := j) (by omega) (by omega))
      rw [Int.toNat_natCast] at gi gj
      have mi := getDP r hrp i (by omega)
      have mj := getDP r hrp j (by omega)
      have sh := shows_spec r i j _ _ gi gj (by omega) (by omega)
      have e1 : showsL (r.getD i 0) (r.getD j 0) = [(r.getD i 0, r.getD j 0)] := by
        unfold showsL ways
        rw [if_neg (by omega), if_neg (by omega), if_neg (by omega)]
        rfl
      rw [e1] at sh
      have hbr : ∀ x y, (pre ++ [r]).any (fun r => bears r i j x y) = (pre.any (fun r => bears r i j x y) || bears r i j x y) := fun x y => by simp
      generalize hx : r.getD i 0 = x at gi mi sh e1
      generalize hy : r.getD j 0 = y at gj mj sh e1
      have hni := gNotInT_ip (x, y) es
      have hrb : ∀ a b, bears r i j a b = (decide (x = a) && decide (y = b)) := fun a b => by
        show (decide (r.getD i 0 = a) && decide (r.getD j 0 = b)) = _
        rw [hx, hy]
      cases hp : es.any (isK (kk x y)) with
      | true =>
        refine ⟨_, [some (.dat (.list (rows.map tD))), some (.dat (.int (i : Int))), some (.dat (.int (j : Int))), some (.own (dE es)), some (.dat (.str "")), some (.dat (rowD r)), some (.dat (ipD (x, y)))], by walk_at "ev"; rfl, .inl ?_, es, some (.dat (.str "")), some (.dat (rowD r)), some (.dat (ipD (x, y))), by simp; omega, ?_, rfl⟩
        · simp only [hp, Bool.not_true] at hni
          clear hl2 hl hr h1 h2 hrl hrp hpl gi gj mi mj e1 hbr hx hy hrb hp
          refine forN (by walk_at "evs"; rfl) ?_
          walk_at "evs"
        · intro a b
          rw [hbr, hrb, h2]
          by_cases e : x = a ∧ y = b
          · obtain ⟨rfl, rfl⟩ := e
            rw [← h2, hp]
            rfl
          · have : (decide (x = a) && decide (y = b)) = false := by
              rw [Bool.and_eq_false_iff, decide_eq_false_iff_not, decide_eq_false_iff_not]
              exact Decidable.not_and_iff_or_not.mp e
            rw [this, Bool.or_false]
      | false =>
        have hput : putE es (kk x y) (.str "") = es ++ [(ipD (x, y), .str "")] := by
          unfold putE
          rw [hp, if_neg (by decide)]
          rfl
        have hk : keysOf (ipD (x, y)) = some (kk x y) := rfl
        have hbg : es.length + 1 ≤ 16777216 := by omega
        refine ⟨_, [some (.dat (.list (rows.map tD))), some (.dat (.int (i : Int))), some (.dat (.int (j : Int))), some (.own (dE (es ++ [(ipD (x, y), .str "")]))), some (.dat (.str "")), some (.dat (rowD r)), some (.dat (ipD (x, y)))], by walk_at "ev"; rfl, .inl ?_, es ++ [(ipD (x, y), .str "")], some (.dat (.str "")), some (.dat (rowD r)), some (.dat (ipD (x, y))), by simp; omega, ?_, rfl⟩
        · simp only [hp, Bool.not_false] at hni
          clear hl2 hl hr h1 h2 hrl hrp hpl gi gj mi mj e1 hbr hx hy hrb hp
          refine forN (by walk_at "evs"; rfl) ?_
          walk_at "evs"
          simp only [oPutT]
          walk_at "evs"
        · intro a b
          rw [hbr, hrb, ← h2, List.any_append]
          have : isK (kk a b) (ipD (x, y), .str "") = (decide (x = a) && decide (y = b)) := by
            have := isK_ent (kk x y) (kk a b) (.str "")
            rw [show ((PyData.tuple ((kk x y).map keyD), PyData.str "")) = (ipD (x, y), PyData.str "") from rfl] at this
            rw [this, ← Bool.decide_and]
            exact decide_eq_decide.mpr kk_inj
          rw [List.any_cons, this, List.any_nil, Bool.or_false]
  refine ⟨es, ?_, h2⟩
  unfold f_shown_by o_shown_by
  refine fnO_rt rfl ?_
  refine seqN (by simp only [oSet, eNewT]; walk_at "ev"; rfl) ?_
  refine seqN (forN (by walk_at "ev") k1) ?_
  walk_at "ev"
/-! the three -/
def bar3 (rows : List (List Int)) (i j : Nat) : Bool := (rows.any fun r => bears r i j 0 1) && ((rows.any fun r => bears r i j 1 0) && rows.any fun r => bears r i j 1 1)
theorem has_all_spec (es : List (PyData × PyData)) : f_has_all [dE es] = .ok (.dat (.bool (es.any (isK (kk 0 1)) && (es.any (isK (kk 1 0)) && es.any (isK (kk 1 1)))))) := by
  have f := lcF_map (bd := bN 1) (fe := eOp gInT (eVar 1) (eVar 0)) (ρ := [some (.dat (dE es)), none]) (e := fun p : Int × Int => fz [.int p.1, .int p.2]) (fun p => .bool (es.any (isK (kk p.1 p.2)))) [(0, 1), (1, 0), (1, 1)] fun p _ => by
    have h := gInT_fz p es
    exact ⟨_, rfl, .dat (.bool (es.any (isK (kk p.1 p.2)))), by walk_at "evs", rfl⟩
  simp only [List.map_cons, List.map_nil] at f
  have g : ∀ a b c : Bool, gAllAny (fun bs => bs.all id) [.list [.bool a, .bool b, .bool c]] = retB (a && (b && c)) := by
    intro a b c
    cases a <;> cases b <;> cases c <;> rfl
  unfold f_has_all o_has_all
  walk_at "evs"
theorem barred_spec (rows : List (List Int)) (g : List Int) (hg : plainR g) (hn : g.length ≤ 1000) (hr : ∀ r ∈ rows, r.length = g.length ∧ plainR r) (hl : rows.length ≤ 100000) :
    f_barred_at [.list (rows.map rowD), rowD g] = .ok (.dat (match (pairsL g.length).find? (fun p => bar3 (rows.map fun r => ag r g) p.1 p.2) with | some p => npD p | none => .none)) := by
  have f := lcF_map (bd := bN 5) (fe := eTup (aCons (eC (.str "")) (aCons (eCall f_against (aCons (eVar 5) (aCons (eVar 1) aNil))) aNil))) (ρ := [some (.dat (.list (rows.map rowD))), some (.dat (rowD g)), none, none, none, none]) (e := rowD) (fun r => tD (ag r g)) rows fun r hr' => by
    have h := against_spec r g (by have := (hr r hr').1; omega)
    refine ⟨_, rfl, .dat (tD (ag r g)), ?_, rfl⟩
    clear hr hr'
    walk_at "evs"
  have hb : rows.length ≤ 16777216 := by omega
  have e : rows.map (fun r => tD (ag r g)) = (rows.map fun r => ag r g).map tD := by rw [List.map_map]; rfl
  rw [e] at f
  have hr2 : ∀ r ∈ (rows.map fun r => ag r g), r.length = g.length ∧ plainR r := by
    intro r h
    obtain ⟨z, hz, rfl⟩ := List.mem_map.mp h
    obtain ⟨z1, z2⟩ := hr z hz
    refine ⟨by rw [ag_length z g (by omega)]; exact z1, ?_⟩
    intro x hx
    obtain ⟨p, hp, e⟩ := List.mem_map.mp hx
    have := z2 p.1 (List.of_mem_zip hp).1
    simp only [agM] at e
    split at e <;> omega
  generalize hT : (rows.map fun r => ag r g) = T at f hr2
  have hTl : T.length ≤ 100000 := by rw [← hT, List.length_map]; exact hl
  have hps := pairs_spec g.length hn
  have hfind := oFor_find (bd := bTup 2 (bCons (bN 3) (bCons (bN 4) bNil))) (body := oFix [2] (oIf (tOf (eCall f_has_all (aCons (eCall f_shown_by (aCons (eVar 2) (aCons (eVar 3) (aCons (eVar 4) aNil)))) aNil))) (oRet (eTup (aCons (eVar 3) (aCons (eVar 4) aNil)))) oNx)) (e := npD)
    (fun ρ => ∃ x2 x3 x4, (x2 = some (.own (.list (T.map tD))) ∨ x2 = some (.dat (.list (T.map tD)))) ∧ ρ = [some (.dat (.list (rows.map rowD))), some (.dat (rowD g)), x2, x3, x4, none]) (fun p => bar3 T p.1 p.2) (fun p => .dat (npD p)) (pairsL g.length)
    [some (.dat (.list (rows.map rowD))), some (.dat (rowD g)), some (.own (.list (T.map tD))), none, none, none] ⟨_, _, _, .inl rfl, rfl⟩ (by
      rintro p hp ρ ⟨x2, x3, x4, hx, rfl⟩
      obtain ⟨m1, m2⟩ := mem_pairsL hp
      obtain ⟨es, s1, s2⟩ := shown_spec T g.length p.1 p.2 (by omega) m2 hr2 hTl
      have h3 := has_all_spec es
      rw [s2, s2, s2] at h3
      replace h3 : f_has_all [dE es] = .ok (.dat (.bool (bar3 T p.1 p.2))) := h3
      refine ⟨[some (.dat (.list (rows.map rowD))), some (.dat (rowD g)), x2, some (.dat (nD p.1)), some (.dat (nD p.2)), none], by walk_at "ev", ?_, ?_⟩
      · intro hp0
        have hp0 : bar3 T p.1 p.2 = false := hp0
        rw [hp0] at h3
        refine ⟨[some (.dat (.list (rows.map rowD))), some (.dat (rowD g)), some (.dat (.list (T.map tD))), some (.dat (nD p.1)), some (.dat (nD p.2)), none], .inl ?_, _, _, _, .inr rfl, rfl⟩
        clear hr hr2 f hps s2 hp0 hT
        rcases hx with rfl | rfl
        · exact fixN (ifN_f (by walk_at "evs") rfl)
        · exact fixN (ifN_f (by walk_at "evs") rfl)
      · intro hp1
        have hp1 : bar3 T p.1 p.2 = true := hp1
        rw [hp1] at h3
        clear hr hr2 f hps s2 hp1 hT
        rcases hx with rfl | rfl
        · exact fixN (ifN_t (by walk_at "evs") (by walk_at "evs"))
        · exact fixN (ifN_t (by walk_at "evs") (by walk_at "evs")))
  have l1 : (0 : Int) ≤ (g.length : Int) := by omega
  have l2 : (g.length : Int) ≤ 10000 := by omega
  have hrg := rng_map g.length
  have hbT : T.length ≤ 16777216 := by omega
  unfold f_barred_at o_barred_at
  refine fnO_rt rfl ?_
  refine seqN (ρ' := [some (.dat (.list (rows.map rowD))), some (.dat (rowD g)), some (.own (.list (T.map tD))), none, none, none]) ?_ ?_
  · clear hfind hps hr hr2 hT
    walk_at "evs"
  clear f hT hr hr2
  have hit : (iOf (eCall f_pairs_of (aCons (eLstRg1 (eCall gLen (aCons (eVar 1) aNil))) aNil))) [some (.dat (.list (rows.map rowD))), some (.dat (rowD g)), some (.own (.list (T.map tD))), none, none, none] = .ok ((pairsL g.length).map npD) := by
    clear hfind
    simp only [iOf, eCall, aCons, aNil, eLstRg1, eVar, List.getElem?_cons_zero, List.getElem?_cons_succ, bindN_ok, Sl.d_dat, gLen_t, List.length_map, isI, l1, l2, and_self, if_true, Sl.d_own, Int.toNat_natCast, hrg]
    rw [hps]
    rfl
  rcases hfind with ⟨p, h1, h2⟩ | ⟨h1, ρ', h2, h3⟩
  · rw [h1]
    unfold oSeq
    rw [forN hit h2]
  · rw [h1]
    refine seqN (forN hit h2) ?_
    rfl
theorem is_borne_spec (rows : List (List Int)) (g : List Int) (d : PyData) (h : f_barred_at [.list (rows.map rowD), rowD g] = .ok (.dat d)) : f_is_borne [.list (rows.map rowD), rowD g] = .ok (.dat (.bool (isNoneD d))) := by
  unfold f_is_borne o_is_borne
  walk_at "evs"
end Dl
/-! Sums over pairs of marks: lists in order, what stands in just one of two. -/
namespace Dl
open PySem PySem.Spec PyProof.Rows L2
theorem gInB_dn {α : Type} [DecidableEq α] (e : α → PyData) (n : Nat) (hn : ∀ a, dn n (e a) = true) (hs : n ≤ 60) (inj : ∀ a b, e a = e b → a = b) (x : α) (l : List α) : gInB (e x) (.list (l.map e)) = .ok (decide (x ∈ l)) := by
  have h1 : SeqAt.shaped (e x) = true := dn_shaped (hn x) (by omega)
  have h2 : SeqAt.shaped (.list (l.map e)) = true := dn_shaped (dn_lst hn l) (by omega)
  have h3 : ((l.map e).any fun z => PyData.eqv z (e x)) = decide (x ∈ l) := by
    rw [List.any_map]
    rw [Bool.eq_iff_iff, List.any_eq_true, decide_eq_true_eq]
    constructor
    · rintro ⟨y, hy, h⟩
      have := (dn_eqv n n _ _ (hn y) (hn x)).mp h
      rw [inj _ _ this] at hy
      exact hy
    · intro h
      exact ⟨x, h, (dn_eqv n n _ _ (hn x) (hn x)).mpr rfl⟩
  unfold gInB
  simp only [h1, h2, h3, and_self, if_true]
  split <;> rfl
theorem gIn_dn {α : Type} [DecidableEq α] (e : α → PyData) (n : Nat) (hn : ∀ a, dn n (e a) = true) (hs : n ≤ 60) (inj : ∀ a b, e a = e b → a = b) (x : α) (l : List α) : gIn (e x) (.list (l.map e)) = retB (decide (x ∈ l)) := by
  unfold gIn
  rw [gInB_dn e n hn hs inj]
  exact bindN_ok
theorem nD_inj (a b : Nat) (h : nD a = nD b) : a = b := by
  injection h with h
  omega
/-! ### sorted -/
def leP (p q : Nat × Nat) : Bool := decide (p.1 < q.1 ∨ (p.1 = q.1 ∧ p.2 ≤ q.2))
def leN (a b : Nat) : Bool := decide (a ≤ b)
theorem srt_map {α : Type} (e : α → PyData) (le : α → α → Bool) (h : ∀ a b, PySem.W.dataLe false id (e a) (e b) = le a b) (l : List α) : srt (l.map e) = (l.mergeSort le).map e := by
  unfold srt
  exact (List.map_mergeSort (fun a _ b _ => (h a b).symm)).symm
/-! ### what stands in just one of two -/
def unl {α : Type} [DecidableEq α] (le : α → α → Bool) (A B : List α) : List α := (A.filter (fun x => !decide (x ∈ B)) ++ B.filter (fun x => !decide (x ∈ A))).mergeSort le
end Dl
/-! Sums: added, lessened. -/
namespace Dl
open PySem PySem.Spec PyProof.Rows L2
structure Sm where
  ps : List (Nat × Nat)
  b : Nat
  md : List Nat
def addS (r m : Sm) : Sm := ⟨unl leP r.ps m.ps, (r.b + m.b) % 2, unl leN r.md m.md⟩
/-- the last pair -/
def lst (m : Sm) : Nat × Nat := m.ps.getLastD (0, 0)
def lessen (K : List Sm) (r : Sm) : Sm := K.foldl (fun r m => if lst m ∈ r.ps then addS r m else r) r
/-- a bound that adding keeps: lists in order without repetition -/
structure OkS (N M : Nat) (r : Sm) : Prop where
  s : r.ps.Pairwise fun p q => leP p q = true ∧ p ≠ q
  n : ∀ p ∈ r.ps, p.1 < N ∧ p.2 < N
  b : r.b < 2
  t : r.md.Pairwise fun p q => p < q
  m : ∀ k ∈ r.md, k < M
theorem inc_len : ∀ (l : List Nat) (a b : Nat), l.Pairwise (· < ·) → (∀ x ∈ l, a ≤ x ∧ x < b) → l.length ≤ b - a
  | [], _, _, _, _ => Nat.zero_le _
  | x :: l, a, b, hp, hb => by
    rw [List.pairwise_cons] at hp
    have h1 := hb x (List.mem_cons_self ..)
    have h2 := inc_len l (x + 1) b hp.2 fun y hy => ⟨hp.1 y hy, (hb y (List.mem_cons_of_mem _ hy)).2⟩
    rw [List.length_cons]
    omega
theorem code_lt {N : Nat} {p q : Nat × Nat} (h : leP p q = true) (ne : p ≠ q) (h2 : p.2 < N) (h3 : q.2 < N) : p.1 * N + p.2 < q.1 * N + q.2 := by
  unfold leP at h
  rw [decide_eq_true_eq] at h
  rcases h with h | ⟨h, h'⟩
  · have : (p.1 + 1) * N ≤ q.1 * N := Nat.mul_le_mul_right N h
    rw [Nat.add_mul] at this
    omega
  · rw [h]
    have : p.2 ≠ q.2 := fun e => ne (Prod.ext h e)
    omega
theorem OkS.len {N M : Nat} {r : Sm} (h : OkS N M r) : r.ps.length ≤ N * N ∧ r.md.length ≤ M := by
  constructor
  · have e : (r.ps.map fun p => p.1 * N + p.2).length ≤ N * N - 0 := by
      refine inc_len _ 0 (N * N) ?_ ?_
      · rw [List.pairwise_map]
        refine h.s.imp_of_mem fun {p q} hp hq z => code_lt z.1 z.2 (h.n p hp).2 (h.n q hq).2
      · intro x hx
        obtain ⟨p, hp, rfl⟩ := List.mem_map.mp hx
        have := h.n p hp
        have h3 : (p.1 + 1) * N ≤ N * N := Nat.mul_le_mul_right N this.1
        rw [Nat.add_mul] at h3
        exact ⟨Nat.zero_le _, by omega⟩
    rw [List.length_map] at e
    omega
  · have := inc_len r.md 0 M h.t fun x hx => ⟨Nat.zero_le _, h.m x hx⟩
    omega
theorem unl_mem {α : Type} [DecidableEq α] {le : α → α → Bool} {A B : List α} {x : α} : x ∈ unl le A B ↔ (x ∈ A ∧ x ∉ B) ∨ (x ∈ B ∧ x ∉ A) := by
  unfold unl
  rw [List.mem_mergeSort, List.mem_append, List.mem_filter, List.mem_filter]
  simp
theorem unl_nodup {α : Type} [DecidableEq α] {le : α → α → Bool} {A B : List α} (ha : A.Nodup) (hb : B.Nodup) : (unl le A B).Nodup := by
  unfold unl
  refine (List.mergeSort_perm _ _).nodup_iff.mpr ?_
  rw [List.nodup_append]
  refine ⟨ha.filter _, hb.filter _, ?_⟩
  intro x hx y hy e
  subst e
  rw [List.mem_filter] at hx hy
  simp at hx hy
  exact hx.2 hy.1
theorem leP_trans (a b c : Nat × Nat) (h1 : leP a b = true) (h2 : leP b c = true) : leP a c = true := by
  unfold leP at *
  rw [decide_eq_true_eq] at *
  omega
theorem leP_total (a b : Nat × Nat) : (leP a b || leP b a) = true := by
  unfold leP
  rw [Bool.or_eq_true, decide_eq_true_eq, decide_eq_true_eq]
  omega
theorem leN_trans (a b c : Nat) (h1 : leN a b = true) (h2 : leN b c = true) : leN a c = true := by
  unfold leN at *
  rw [decide_eq_true_eq] at *
  omega
theorem leN_total (a b : Nat) : (leN a b || leN b a) = true := by
  unfold leN
  rw [Bool.or_eq_true, decide_eq_true_eq, decide_eq_true_eq]
  omega
theorem nodup_of_s {l : List (Nat × Nat)} (h : l.Pairwise fun p q => leP p q = true ∧ p ≠ q) : l.Nodup := h.imp fun z => z.2
theorem nodup_of_t {l : List Nat} (h : l.Pairwise (· < ·)) : l.Nodup := h.imp fun z => Nat.ne_of_lt z
theorem OkS.add {N M : Nat} {r m : Sm} (h : OkS N M r) (k : OkS N M m) : OkS N M (addS r m) := by
  refine ⟨?_, fun p hp => ?_, Nat.mod_lt _ (by decide), ?_, fun p hp => ?_⟩
  · have n := unl_nodup (le := leP) (nodup_of_s h.s) (nodup_of_s k.s)
    have s : (unl leP r.ps m.ps).Pairwise fun a b => leP a b = true := List.pairwise_mergeSort leP_trans leP_total _
    exact List.Pairwise.imp₂ (fun a b h1 h2 => ⟨h1, h2⟩) s n
  · rcases unl_mem.mp hp with ⟨z, _⟩ | ⟨z, _⟩
    · exact h.n p z
    · exact k.n p z
  · have n := unl_nodup (le := leN) (nodup_of_t h.t) (nodup_of_t k.t)
    have s : (unl leN r.md m.md).Pairwise fun a b => leN a b = true := List.pairwise_mergeSort leN_trans leN_total _
    refine List.Pairwise.imp₂ (fun a b h1 h2 => ?_) s n
    unfold leN at h1
    rw [decide_eq_true_eq] at h1
    exact Nat.lt_of_le_of_ne h1 h2
  · rcases unl_mem.mp hp with ⟨z, _⟩ | ⟨z, _⟩
    · exact h.m p z
    · exact k.m p z
theorem OkS.lessen {N M : Nat} : ∀ (K : List Sm) {r : Sm}, (∀ m ∈ K, OkS N M m) → OkS N M r → OkS N M (lessen K r)
  | [], _, _, h => h
  | m :: K, r, hk, h => by
    have ih := OkS.lessen K (r := if lst m ∈ r.ps then addS r m else r) (fun x hx => hk x (List.mem_cons_of_mem _ hx)) (by
      split
      · exact h.add (hk m (List.mem_cons_self ..))
      · exact h)
    exact ih
end Dl
/-! Sums: what is kept stays reduced. -/
namespace Dl
open PySem PySem.Spec PyProof.Rows L2
theorem leP_antisymm {p q : Nat × Nat} (h : leP p q = true) (k : leP q p = true) : p = q := by
  unfold leP at h k
  rw [decide_eq_true_eq] at h k
  exact Prod.ext (by omega) (by omega)
theorem leP_refl (p : Nat × Nat) : leP p p = true := by
  unfold leP
  rw [decide_eq_true_eq]
  omega
theorem last_mem {α : Type} {l : List α} (d : α) (h : l ≠ []) : l.getLastD d ∈ l := by
  rw [List.getLastD_eq_getLast?]
  cases e : l.getLast? with
  | none => exact absurd (List.getLast?_eq_none_iff.mp e) h
  | some a => exact List.mem_of_getLast? e
theorem lst_mem {m : Sm} (h : m.ps ≠ []) : lst m ∈ m.ps := last_mem _ h
theorem last_max : ∀ {l : List (Nat × Nat)} (d : Nat × Nat), (l.Pairwise fun p q => leP p q = true ∧ p ≠ q) → ∀ p ∈ l, leP p (l.getLastD d) = true
  | [], _, _, _, h => by cases h
  | [a], d, _, p, h => by
    rw [List.mem_singleton] at h
    subst h
    exact leP_refl p
  | a :: b :: l, d, hs, p, h => by
    rw [List.pairwise_cons] at hs
    have e : (a :: b :: l).getLastD d = (b :: l).getLastD a := rfl
    rw [e]
    rcases List.mem_cons.mp h with h | h
    · subst h
      exact (hs.1 _ (last_mem p (by simp))).1
    · exact last_max a hs.2 p h
theorem lst_max {N M : Nat} {m : Sm} (o : OkS N M m) {p : Nat × Nat} (h : p ∈ m.ps) : leP p (lst m) = true := last_max _ o.s p h
/-- the last is the one that stands behind all -/
theorem lst_eq {N M : Nat} {m : Sm} (o : OkS N M m) {p : Nat × Nat} (h : p ∈ m.ps) (k : ∀ q ∈ m.ps, leP q p = true) : lst m = p :=
  leP_antisymm (k _ (lst_mem (by intro e; rw [e] at h; cases h))) (lst_max o h)
theorem addS_mem {r m : Sm} {p : Nat × Nat} : p ∈ (addS r m).ps ↔ (p ∈ r.ps ∧ p ∉ m.ps) ∨ (p ∈ m.ps ∧ p ∉ r.ps) := unl_mem
structure Red (N M : Nat) (K : List Sm) : Prop where
  ok : ∀ m ∈ K, OkS N M m ∧ m.ps ≠ []
  pw : K.Pairwise fun x y => lst x ∉ y.ps ∧ lst y ∉ x.ps
theorem lessen_app (K : List Sm) (a r : Sm) : lessen (K ++ [a]) r = if lst a ∈ (lessen K r).ps then addS (lessen K r) a else lessen K r := by
  unfold lessen
  rw [List.foldl_append]
  rfl
theorem lessen_free {K : List Sm} {r : Sm} (h : ∀ m ∈ K, m.ps ≠ []) (pw : K.Pairwise fun x y => lst x ∉ y.ps ∧ lst y ∉ x.ps) : ∀ x ∈ K, lst x ∉ (lessen K r).ps := by
  suffices H : ∀ (post pre : List Sm), K = pre ++ post → (∀ x ∈ pre, lst x ∉ (lessen pre r).ps) → ∀ x ∈ K, lst x ∉ (lessen K r).ps from H K [] rfl (fun x hx => by cases hx)
  intro post
  induction post with
  | nil =>
    intro pre e hp
    rw [List.append_nil] at e
    subst e
    exact hp
  | cons a post ih =>
    intro pre e hp
    refine ih (pre ++ [a]) (by rw [e]; simp) ?_
    have pw' := pw
    rw [e, List.pairwise_append] at pw'
    obtain ⟨_, _, p3⟩ := pw'
    have ha : lst a ∈ a.ps := lst_mem (h a (by rw [e]; simp))
    intro x hx
    rw [lessen_app]
    rcases List.mem_append.mp hx with hx | hx
    · have h1 := hp x hx
      have h2 := (p3 x hx a (List.mem_cons_self ..)).1
      split
      · rw [addS_mem]
        exact fun z => z.elim (fun z => h1 z.1) (fun z => h2 z.1)
      · exact h1
    · rw [List.mem_singleton] at hx
      subst hx
      split
      · rename_i hm
        rw [addS_mem]
        exact fun z => z.elim (fun z => z.2 ha) (fun z => z.2 hm)
      · assumption
/-- one kept sum, as a new one comes in -/
def freed (m x : Sm) : Sm := if lst m ∈ x.ps then addS x m else x
theorem freed_ok {N M : Nat} {m x : Sm} (hm : OkS N M m) (nm : m.ps ≠ []) (hx : OkS N M x) (nx : x.ps ≠ []) (f : lst x ∉ m.ps) : OkS N M (freed m x) ∧ (freed m x).ps ≠ [] ∧ lst (freed m x) = lst x := by
  unfold freed
  split
  · rename_i h
    have o := hx.add hm
    have l1 : lst x ∈ (addS x m).ps := addS_mem.mpr (.inl ⟨lst_mem nx, f⟩)
    refine ⟨o, (fun e => by rw [e] at l1; cases l1), lst_eq o l1 fun q hq => ?_⟩
    rcases addS_mem.mp hq with ⟨z, _⟩ | ⟨z, _⟩
    · exact lst_max hx z
    · exact leP_trans _ _ _ (lst_max hm z) (lst_max hx h)
  · exact ⟨hx, nx, rfl⟩
theorem freed_not {m x : Sm} (nm : m.ps ≠ []) : lst m ∉ (freed m x).ps := by
  unfold freed
  split
  · rename_i h
    rw [addS_mem]
    exact fun z => z.elim (fun z => z.2 (lst_mem nm)) (fun z => z.2 h)
  · assumption
theorem freed_sub {m x : Sm} {p : Nat × Nat} (h : p ∉ x.ps) (k : p ∉ m.ps) : p ∉ (freed m x).ps := by
  unfold freed
  split
  · rw [addS_mem]
    exact fun z => z.elim (fun z => h z.1) (fun z => k z.1)
  · exact h
theorem Red.take {N M : Nat} {K : List Sm} {r : Sm} (h : Red N M K) (hr : OkS N M r) (ne : (lessen K r).ps ≠ []) : Red N M (K.map (freed (lessen K r)) ++ [lessen K r]) := by
  have om := OkS.lessen K (fun m hm => (h.ok m hm).1) hr
  have fr := lessen_free (r := r) (fun m hm => (h.ok m hm).2) h.pw
  generalize lessen K r = m at *
  refine ⟨?_, ?_⟩
  · intro x hx
    rcases List.mem_append.mp hx with hx | hx
    · obtain ⟨y, hy, rfl⟩ := List.mem_map.mp hx
      obtain ⟨z1, z2, _⟩ := freed_ok om ne (h.ok y hy).1 (h.ok y hy).2 (fr y hy)
      exact ⟨z1, z2⟩
    · rw [List.mem_singleton] at hx
      subst hx
      exact ⟨om, ne⟩
  · rw [List.pairwise_append, List.pairwise_map]
    refine ⟨?_, List.pairwise_singleton _ _, ?_⟩
    · refine h.pw.imp_of_mem fun {x y} hx hy z => ?_
      rw [(freed_ok om ne (h.ok x hx).1 (h.ok x hx).2 (fr x hx)).2.2, (freed_ok om ne (h.ok y hy).1 (h.ok y hy).2 (fr y hy)).2.2]
      exact ⟨freed_sub z.1 (fr x hx), freed_sub z.2 (fr y hy)⟩
    · intro x0 hx0 y hy
      obtain ⟨x, hx, rfl⟩ := List.mem_map.mp hx0
      rw [List.mem_singleton] at hy
      subst hy
      rw [(freed_ok om ne (h.ok x hx).1 (h.ok x hx).2 (fr x hx)).2.2]
      exact ⟨fr x hx, freed_not ne⟩
theorem Red.nil (N M : Nat) : Red N M [] := ⟨(fun m h => by cases h), .nil⟩
/-! ### what holds -/
def par {α : Type} (v : α → Nat) (l : List α) : Nat := (l.map v).sum % 2
end Dl
/-! Sums.take. -/
/-! mixed_at, pairs_of, shown_by, live_pairs. -/
namespace Dl
open PySem PySem.Spec PyProof.Rows L2
def mixL (r : List Int) : List Nat := (List.range r.length).filter fun i => decide (r.getD i 0 = 2)
theorem enumD_row (r : List Int) : enumD (r.map PyData.int) = (List.range r.length).map fun i => PyData.tuple [nD i, .int (r.getD i 0)] := by
  unfold enumD
  refine List.ext_getElem (by simp) fun i h1 h2 => ?_
  simp at h1
  simp [List.getD_eq_getElem?_getD, h1]
def pairsG (l : List Nat) : List (Nat × Nat) := (List.range l.length).flatMap fun k => (l.drop (k + 1)).map fun j => (l.getD k 0, j)
def showL (r : List Int) (i j : Nat) : List (Int × Int) := showsL (r.getD i 0) (r.getD j 0)
end Dl
/-! live_pairs. -/
namespace Dl
open PySem PySem.Spec PyProof.Rows L2
/-- two are mixed there -/
def both2 (r : List Int) (p : Nat × Nat) : Bool := decide (r.getD p.1 0 = 2) && decide (r.getD p.2 0 = 2)
def liveL (rows : List (List Int)) (n : Nat) : List (Nat × Nat) := (pairsL n).filter fun p => rows.any fun r => both2 r p
end Dl
/-! facts. -/
namespace Dl
open PySem PySem.Spec PyProof.Rows L2
theorem gEq_ss {a b : Str} : gEq (.str a) (.str b) = retB (decide (a = b)) := rfl
/-! threes -/
end Dl
/-! forced, clash, facts_of. -/
namespace Dl
open PySem PySem.Spec PyProof.Rows L2
theorem seqR {f g : Env → O} {ρ : Env} {sl : Sl} (h : f ρ = .rt sl) : oSeq f g ρ = .rt sl := by
  unfold oSeq
  rw [h]
abbrev Folk := List (Str × List Int)
/-! clash -/
/-! all facts -/
structure Said where
  w : Str
  a : Nat
  b : Nat
  t : Bool
end Dl
/-! Joints.looked. -/
/-! Joints made. -/
/-! Joints(..). -/
/-! a company of the laws. -/
namespace Dl
open PySem PySem.Spec PyProof.Rows L2
def SOk (s : Str) : Prop := ∀ c ∈ s.cps.toList, c < 1114112
theorem SOk.ok {s : Str} (h : SOk s) : PyData.strOk s = true := by
  unfold PyData.strOk
  rw [Array.all_eq_true_iff_forall_mem]
  exact fun x hx => decide_eq_true (h x (Array.mem_toList_iff.mpr hx))
theorem SOk.one {c : Nat} (h : c < 1114112) : SOk ⟨#[c]⟩ := by
  intro d hd
  simp at hd
  omega
theorem SOk.cut {a : Str} {lo hi : Option Int} (h : SOk a) : SOk (cutS a lo hi) := by
  intro c hc
  unfold cutS at hc
  exact h c (List.mem_of_mem_drop (List.mem_of_mem_take hc))
theorem fold_mem {P : Nat → Prop} {x : Array Nat} (h : ∀ d ∈ x.toList, P d) : ∀ (k : Nat) (acc : Array Nat), (∀ d ∈ acc.toList, P d) → ∀ d ∈ ((List.replicate k x).foldl (· ++ ·) acc).toList, P d
  | 0, acc, ha => ha
  | k + 1, acc, ha => by
    rw [List.replicate_succ, List.foldl_cons]
    refine fold_mem h k (acc ++ x) fun d hd => ?_
    rw [Array.toList_append, List.mem_append] at hd
    exact hd.elim (ha d) (h d)
theorem SOk.mul {a : Str} {n : Int} (h : SOk a) : SOk (Txt.mul a n) := by
  unfold Txt.mul
  split
  · intro c hc
    cases hc
  · split
    · exact h
    · exact fold_mem h _ #[] (fun d hd => by cases hd)
end Dl
/-! a company of the laws: spoilt, true, company. -/
namespace Dl
open PySem PySem.Spec PyProof.Rows L2
theorem setI_ints (l : List Int) (i : Nat) (v : Int) (h : i < l.length) : setI (l.map PyData.int) (nD i) (.int v) = some ((l.set i v).map PyData.int) := by
  unfold setI ixN
  simp only
  rw [if_pos (by omega), if_pos (by rw [List.length_map]; omega), Int.toNat_natCast, List.map_set]
end Dl
/-! a company of the laws. -/
/-! data of whole numbers, texts and None: equal. The live pairs by the law. -/
namespace Dl
open PySem PySem.Spec PyProof.Rows L2
def dm : Nat → PyData → Bool
  | _, .int _ => true
  | _, .str s => PyData.strOk s
  | _, .none => true
  | n + 1, .tuple xs => xs.all (dm n)
  | n + 1, .list xs => xs.all (dm n)
  | _, _ => false
theorem dm_int (n : Nat) (i : Int) : dm n (.int i) = true := by cases n <;> rfl
theorem dm_eqv : ∀ (n m : Nat) (d e : PyData), dm n d = true → dm m e = true → (PyData.eqv d e = true ↔ d = e) := by
  intro n
  induction n with
  | zero =>
    intro m d e h h2
    cases d <;> try (simp [dm] at h; done)
    all_goals (cases m <;> cases e <;> first | (simp [dm] at h2; done) | (simp [PyData.eqv]; done))
  | succ n ih =>
    intro m d e h h2
    cases d <;> try (simp [dm] at h; done)
    all_goals (cases m <;> cases e <;> try (first | (simp [dm] at h2; done) | (simp [PyData.eqv]; done)))
    · simp only [PyData.eqv, PyData.list.injEq]
      exact dn_eqvAll _ _ (fun x _ y _ hx hy => ih _ x y hx hy) h h2
    · simp only [PyData.eqv, PyData.tuple.injEq]
      exact dn_eqvAll _ _ (fun x _ y _ hx hy => ih _ x y hx hy) h h2
theorem dm_lay : ∀ (n : Nat) (d : PyData), dm n d = true → d.canLay0 = true ∧ d.depth ≤ n := by
  intro n
  induction n with
  | zero =>
    intro d h
    cases d with
    | int i => exact ⟨by simp [PyData.canLay0], by simp [PyData.depth]⟩
    | none => exact ⟨by simp [PyData.canLay0], by simp [PyData.depth]⟩
    | str s =>
      have h : PyData.strOk s = true := h
      exact ⟨by simp [PyData.canLay0, h], by simp [PyData.depth]⟩
    | bool b => simp [dm] at h
    | list b => simp [dm] at h
    | tuple b => simp [dm] at h
    | dict b => simp [dm] at h
  | succ n ih =>
    intro d h
    cases d with
    | int i => exact ⟨by simp [PyData.canLay0], by simp [PyData.depth]⟩
    | none => exact ⟨by simp [PyData.canLay0], by simp [PyData.depth]⟩
    | str s =>
      have h : PyData.strOk s = true := h
      exact ⟨by simp [PyData.canLay0, h], by simp [PyData.depth]⟩
    | bool b => simp [dm] at h
    | dict b => simp [dm] at h
    | list b =>
      have h2 := dn_all (n := n) ih _ h
      simp only [PyData.canLay0, PyData.depth]
      exact ⟨h2.1, by omega⟩
    | tuple b =>
      have h2 := dn_all (n := n) ih _ h
      simp only [PyData.canLay0, PyData.depth]
      exact ⟨h2.1, by omega⟩
theorem dm_shaped {n : Nat} {d : PyData} (h : dm n d = true) (hn : n ≤ 64) : SeqAt.shaped d = true := by
  have := dm_lay n d h
  unfold SeqAt.shaped
  rw [this.1, Bool.true_and]
  exact decide_eq_true (by omega)
theorem gEqB_dm {n m : Nat} {d e : PyData} {p : Prop} [Decidable p] (h : dm n d = true) (h2 : dm m e = true) (hn : n ≤ 64) (hm : m ≤ 64) (hp : d = e ↔ p) : gEqB d e = .ok (decide p) := by
  have h3 := dm_eqv n m d e h h2
  have e2 : PyData.eqv d e = decide p := by
    by_cases q : p
    · rw [decide_eq_true q, h3.mpr (hp.mpr q)]
    · rw [decide_eq_false q]
      exact Bool.eq_false_iff.mpr fun z => q (hp.mp (h3.mp z))
  have k : SeqAt.shaped d = true ∧ SeqAt.shaped e = true := ⟨dm_shaped h hn, dm_shaped h2 hm⟩
  unfold gEqB
  split
  · rename_i i j
    have : (i = j) ↔ p := by rw [← hp]; simp
    simp only [this]
  · rename_i i j
    have : (i = j) ↔ p := by rw [← hp]; simp
    simp only [this]
  · cases n <;> (simp [dm] at h; done)
  · rw [if_pos k, e2]
theorem gNe_dm {n m : Nat} {d e : PyData} {p : Prop} [Decidable p] (h : dm n d = true) (h2 : dm m e = true) (hn : n ≤ 64) (hm : m ≤ 64) (hp : d = e ↔ p) : gNe d e = retB (!decide p) := by unfold gNe; rw [gEqB_dm h h2 hn hm hp]; rfl
theorem dm_ints (n : Nat) (xs : List Int) : (xs.map PyData.int).all (dm n) = true := List.all_eq_true.mpr fun d hd => by
  obtain ⟨i, _, rfl⟩ := List.mem_map.mp hd
  exact dm_int n i
theorem dm_lst {α : Type} {e : α → PyData} {n : Nat} (h : ∀ a, dm n (e a) = true) (l : List α) : dm (n + 1) (.list (l.map e)) = true := List.all_eq_true.mpr fun d hd => by
  obtain ⟨a, _, rfl⟩ := List.mem_map.mp hd
  exact h a
theorem gNe_refl {n : Nat} {d : PyData} (h : dm n d = true) (hn : n ≤ 64) : gNe d d = retB false := by
  rw [gNe_dm (p := True) h h hn hn (by simp)]
  exact congrArg retB (by simp)
/-! ### live pairs by the law -/
end Dl
/-! Tools: loops and comprehensions without their texts. -/
namespace Dl
open PySem PySem.Spec PyProof.Rows L2
abbrev sd (d : PyData) : Option Sl := some (.dat d)
abbrev so (d : PyData) : Option Sl := some (.own d)
theorem gNe_ss {a b : Str} : gNe (.str a) (.str b) = retB (!decide (a = b)) := rfl
end Dl
--EV2-BEGIN
local macro_rules | `(tactic| walk_at "e") => `(tactic| simp only [Dl.fnO, Dl.oSeq, Dl.gLen_s, Dl.oSet, Dl.oIf, Dl.oRet, Dl.oRetV, Dl.oRetN, Dl.oNx, Dl.oBk, Dl.oCt, Dl.oExp, Dl.oFix, Dl.fixs, Dl.Env.fix, Dl.oForE, Dl.oMutS, Dl.oMutA, Dl.oAsg, Dl.oSetIx, Dl.mMut, Dl.mMutM, Dl.mCall, Dl.mLift, Dl.amCons, Dl.eVar, Dl.eC, Dl.eOp, Dl.eUn, Dl.eIf, Dl.eAndV, Dl.eOrV, Dl.eNotV, Dl.eTup, Dl.eLst, Dl.eCall, Dl.eIsi, Dl.eChain, Dl.eSl, Dl.sNone, Dl.sSome, Dl.isI, Dl.isB, Dl.tOf, Dl.tAndF, Dl.tOrF, Dl.tNotF, Dl.aNil, Dl.aCons, Dl.iOf, Dl.iAr, Dl.itemsD, Dl.rng1_i, Dl.rng2_i, Dl.bN, Dl.bTup, Dl.bCons, Dl.bNil, Dl.oOfN_ok, Dl.oOf_exc, Dl.oOf_stuck, Dl.bindN_ok, Dl.bind_exc, Dl.bind_stuck, Dl.Sl.d_dat, Dl.Sl.d_own, Dl.gAdd_ii, Dl.gAdd_tt, Dl.gAdd_ll, Dl.gSub_ii, Dl.gMod_ii, Dl.gDiv_ii, Dl.gMul_l, Dl.gMul_r, Dl.gPow_ii, Dl.gNeg_i, Dl.gEq_ii, Dl.gNe_ii, Dl.gEq_bb, Dl.gNe_bb, Dl.gCmp_ii, Dl.cmpI, Dl.gIsN_n, Dl.gNotN_n, Dl.isNoneD, Dl.gAppend_1, Dl.gLen_l, Dl.gLen_t, Dl.gTuple_l, Dl.gTuple_t, Dl.gList_l, Dl.gList_t, Dl.ePub, Dl.tPub, Dl.gMin2_ii, Dl.fixAll_map, Dl.fixS_own, Dl.fixS_dat, Dl.fixS_none, Dl.pubM_ok, Dl.immSl_dat, Dl.imm_int, Dl.imm_bool, Dl.imm_tup, Dl.immA_ints,  Dl.ncast0, Dl.ncast1, Dl.ncast2, Dl.ncast3, Dl.ncast4, Dl.ncast5, Dl.oFor_nil, Dl.oFor_cons, Dl.gSl_t, Dl.gSl_l,  Dl.eLc, Dl.wipeE, Dl.zipOf_l, Dl.zipOf_t, Dl.enumOf_l, Dl.enumOf_t,  Dl.isi_int_int, Dl.isi_int_bool, Dl.isi_int_tuple, Dl.isi_int_list, Dl.isi_int_str, Dl.isi_bool_int, Dl.isi_bool_bool, Dl.isi_bool_tuple, Dl.isi_bool_list, Dl.isi_bool_str, Dl.isi_tuple_int, Dl.isi_tuple_bool, Dl.isi_tuple_tuple, Dl.isi_tuple_list, Dl.isi_tuple_str, Dl.isi_list_int, Dl.isi_list_bool, Dl.isi_list_tuple, Dl.isi_list_list, Dl.isi_list_str, Dl.isi_str_int, Dl.isi_str_bool, Dl.isi_str_tuple, Dl.isi_str_list, Dl.isi_str_str, Dl.isi_none_int, Dl.isi_none_bool, Dl.isi_none_tuple, Dl.isi_none_list, Dl.isi_none_str, Dl.gMax2_ii, List.getElem?_cons_zero, List.getElem?_cons_succ, List.set_cons_zero, List.set_cons_succ, List.map_cons, List.map_nil, List.length_cons, List.length_nil, List.replicate_succ, List.replicate_zero, List.cons_append, List.nil_append, List.append_nil, Nat.reduceSub, Nat.reduceAdd, Nat.reduceEqDiff, if_true, if_false, ite_true, ite_false, Bool.false_eq_true, decide_eq_true_eq, Nat.zero_add, and_self, true_and, and_true, or_true, true_or, or_false, false_or, not_true_eq_false, not_false_eq_true, Bool.not_true, Bool.not_false, Bool.or_true, Bool.true_or, Bool.or_false, Bool.false_or, Bool.and_true, Bool.true_and, Bool.and_false, Bool.false_and, decide_true, decide_false, List.length_map, Dl.big, Int.reduceLT, Int.reduceLE, Int.reduceAdd, Int.reduceSub, Int.reduceMul, Int.reduceNeg, Int.reduceMod, Int.reduceDiv, Int.reduceToNat, Int.reducePow, Int.reduceEq, Nat.reduceLeDiff, ↓reduceIte, List.length_append, Bool.true_eq_false, Dl.retI, Dl.retB, Dl.retS, Dl.eNewT, Dl.eNewK, Dl.gSum_ints, Dl.gEq_ss, Dl.gNe_ss, Dl.oExc])
local macro_rules | `(tactic| walk_at "es") => `(tactic| simp only [*, Dl.fnO, Dl.oSeq, Dl.gLen_s, Dl.oSet, Dl.oIf, Dl.oRet, Dl.oRetV, Dl.oRetN, Dl.oNx, Dl.oBk, Dl.oCt, Dl.oExp, Dl.oFix, Dl.fixs, Dl.Env.fix, Dl.oForE, Dl.oMutS, Dl.oMutA, Dl.oAsg, Dl.oSetIx, Dl.mMut, Dl.mMutM, Dl.mCall, Dl.mLift, Dl.amCons, Dl.eVar, Dl.eC, Dl.eOp, Dl.eUn, Dl.eIf, Dl.eAndV, Dl.eOrV, Dl.eNotV, Dl.eTup, Dl.eLst, Dl.eCall, Dl.eIsi, Dl.eChain, Dl.eSl, Dl.sNone, Dl.sSome, Dl.isI, Dl.isB, Dl.tOf, Dl.tAndF, Dl.tOrF, Dl.tNotF, Dl.aNil, Dl.aCons, Dl.iOf, Dl.iAr, Dl.itemsD, Dl.rng1_i, Dl.rng2_i, Dl.bN, Dl.bTup, Dl.bCons, Dl.bNil, Dl.oOfN_ok, Dl.oOf_exc, Dl.oOf_stuck, Dl.bindN_ok, Dl.bind_exc, Dl.bind_stuck, Dl.Sl.d_dat, Dl.Sl.d_own, Dl.gAdd_ii, Dl.gAdd_tt, Dl.gAdd_ll, Dl.gSub_ii, Dl.gMod_ii, Dl.gDiv_ii, Dl.gMul_l, Dl.gMul_r, Dl.gPow_ii, Dl.gNeg_i, Dl.gEq_ii, Dl.gNe_ii, Dl.gEq_bb, Dl.gNe_bb, Dl.gCmp_ii, Dl.cmpI, Dl.gIsN_n, Dl.gNotN_n, Dl.isNoneD, Dl.gAppend_1, Dl.gLen_l, Dl.gLen_t, Dl.gTuple_l, Dl.gTuple_t, Dl.gList_l, Dl.gList_t, Dl.ePub, Dl.tPub, Dl.gMin2_ii, Dl.fixAll_map, Dl.fixS_own, Dl.fixS_dat, Dl.fixS_none, Dl.pubM_ok, Dl.immSl_dat, Dl.imm_int, Dl.imm_bool, Dl.imm_tup, Dl.immA_ints,  Dl.ncast0, Dl.ncast1, Dl.ncast2, Dl.ncast3, Dl.ncast4, Dl.ncast5, Dl.oFor_nil, Dl.oFor_cons, Dl.gSl_t, Dl.gSl_l,  Dl.eLc, Dl.wipeE, Dl.zipOf_l, Dl.zipOf_t, Dl.enumOf_l, Dl.enumOf_t,  Dl.isi_int_int, Dl.isi_int_bool, Dl.isi_int_tuple, Dl.isi_int_list, Dl.isi_int_str, Dl.isi_bool_int, Dl.isi_bool_bool, Dl.isi_bool_tuple, Dl.isi_bool_list, Dl.isi_bool_str, Dl.isi_tuple_int, Dl.isi_tuple_bool, Dl.isi_tuple_tuple, Dl.isi_tuple_list, Dl.isi_tuple_str, Dl.isi_list_int, Dl.isi_list_bool, Dl.isi_list_tuple, Dl.isi_list_list, Dl.isi_list_str, Dl.isi_str_int, Dl.isi_str_bool, Dl.isi_str_tuple, Dl.isi_str_list, Dl.isi_str_str, Dl.isi_none_int, Dl.isi_none_bool, Dl.isi_none_tuple, Dl.isi_none_list, Dl.isi_none_str, Dl.gMax2_ii, List.getElem?_cons_zero, List.getElem?_cons_succ, List.set_cons_zero, List.set_cons_succ, List.map_cons, List.map_nil, List.length_cons, List.length_nil, List.replicate_succ, List.replicate_zero, List.cons_append, List.nil_append, List.append_nil, Nat.reduceSub, Nat.reduceAdd, Nat.reduceEqDiff, if_true, if_false, ite_true, ite_false, Bool.false_eq_true, decide_eq_true_eq, Nat.zero_add, and_self, true_and, and_true, or_true, true_or, or_false, false_or, not_true_eq_false, not_false_eq_true, Bool.not_true, Bool.not_false, Bool.or_true, Bool.true_or, Bool.or_false, Bool.false_or, Bool.and_true, Bool.true_and, Bool.and_false, Bool.false_and, decide_true, decide_false, List.length_map, Dl.big, Int.reduceLT, Int.reduceLE, Int.reduceAdd, Int.reduceSub, Int.reduceMul, Int.reduceNeg, Int.reduceMod, Int.reduceDiv, Int.reduceToNat, Int.reducePow, Int.reduceEq, Nat.reduceLeDiff, ↓reduceIte, List.length_append, Bool.true_eq_false, Dl.retI, Dl.retB, Dl.retS, Dl.eNewT, Dl.eNewK, Dl.gSum_ints, Dl.gEq_ss, Dl.gNe_ss, Dl.oExc])
local macro_rules | `(tactic| walk_at "s") => `(tactic| refine Dl.seqN (by walk_at "es"; rfl) ?_)
--EV2-END
namespace Dl
open PySem PySem.Spec PyProof.Rows L2
/-- a loop, by what holds after a prefix -/
theorem forP {α : Type} {fi : Env → M (List PyData)} {bd : PyData → Env → M Env} {body : Env → O} {ρ : Env} (e : α → PyData) (ls : List α) (I : List α → Env → Prop) (hfi : fi ρ = .ok (ls.map e)) (h0 : I [] ρ)
    (st : ∀ pre a post ρ, ls = pre ++ a :: post → I pre ρ → ∃ ρ1 ρ2, bd (e a) ρ = .ok ρ1 ∧ (body ρ1 = .nx ρ2 ∨ body ρ1 = .ct ρ2) ∧ I (pre ++ [a]) ρ2) : ∃ ρ', oForE fi bd body ρ = .nx ρ' ∧ I ls ρ' := by
  obtain ⟨ρ', h1, h2⟩ := oFor_pre (bd := bd) (body := body) (e := e) I ls ρ h0 (fun pre a post ρ hl hi => by
    obtain ⟨ρ1, ρ2, k1, k2, k3⟩ := st pre a post ρ hl hi
    exact ⟨ρ1, ρ2, k1, k2, k3⟩)
  exact ⟨ρ', forN hfi h1, h2⟩
theorem forS {α : Type} {fi : Env → M (List PyData)} {bd : PyData → Env → M Env} {body g : Env → O} {ρ : Env} {r : O} (e : α → PyData) (ls : List α) (I : List α → Env → Prop) (hfi : fi ρ = .ok (ls.map e)) (h0 : I [] ρ)
    (st : ∀ pre a post ρ, ls = pre ++ a :: post → I pre ρ → ∃ ρ1 ρ2, bd (e a) ρ = .ok ρ1 ∧ (body ρ1 = .nx ρ2 ∨ body ρ1 = .ct ρ2) ∧ I (pre ++ [a]) ρ2) (k : ∀ ρ', I ls ρ' → g ρ' = r) : oSeq (oForE fi bd body) g ρ = r :=
  seqP (I ls) (forP e ls I hfi h0 st) k
theorem lcE {α : Type} {fi : Env → M (List PyData)} {own : List Nat} {bd : PyData → Env → M Env} {fe : Env → M Sl} {ρ : Env} (e : α → PyData) (ls : List α) (g : α → PyData) (hfi : fi ρ = .ok (ls.map e)) (hb : ls.length ≤ 16777216)
    (h : ∀ a ∈ ls, ∃ ρ1, bd (e a) (wipeE ρ own) = .ok ρ1 ∧ ∃ y, fe ρ1 = .ok y ∧ y.d = g a) : eLc fi own bd (fun _ => .ok true) fe ρ = .ok (.own (.list (ls.map g))) := by
  unfold eLc
  rw [hfi, bindN_ok, lcF_map g ls h, bindN_ok, List.length_map, if_pos (big_lt hb)]
theorem lcG {α : Type} {fi : Env → M (List PyData)} {own : List Nat} {bd : PyData → Env → M Env} {tt : Env → M Bool} {fe : Env → M Sl} {ρ : Env} (e : α → PyData) (ls : List α) (p : α → Bool) (g : α → PyData) (hfi : fi ρ = .ok (ls.map e)) (hb : ls.length ≤ 16777216)
    (h : ∀ a ∈ ls, ∃ ρ1, bd (e a) (wipeE ρ own) = .ok ρ1 ∧ tt ρ1 = .ok (p a) ∧ (p a = true → ∃ y, fe ρ1 = .ok y ∧ y.d = g a)) : eLc fi own bd tt fe ρ = .ok (.own (.list ((ls.filter p).map g))) := by
  unfold eLc
  rw [hfi, bindN_ok, lcF_gen p g ls h, bindN_ok, List.length_map, if_pos (big_lt (Nat.le_trans (List.length_filter_le ..) hb))]
end Dl
/-! Joints: loose pairs, the count, the values of a number. -/
/-! Joints.values_of. -/
/-! Joints.told_apart. -/
/-! The kept sums and the numbers of ways. -/
namespace Dl
open PySem PySem.Spec PyProof.Rows L2
/-! ### numbers -/
section
variable {n M : Nat} {L : List (Nat × Nat)} {K : List Sm}
theorem Red.inj (h : Red n M K) : ∀ x ∈ K, ∀ y ∈ K, lst x ∈ y.ps → x = y := by
  have pw : K.Pairwise fun x y => (lst x ∈ y.ps → x = y) ∧ (lst y ∈ x.ps → y = x) := h.pw.imp fun z => ⟨fun a => absurd a z.1, fun a => absurd a z.2⟩
  have key : ∀ (K : List Sm), (K.Pairwise fun x y => (lst x ∈ y.ps → x = y) ∧ (lst y ∈ x.ps → y = x)) → ∀ x ∈ K, ∀ y ∈ K, lst x ∈ y.ps → x = y := by
    intro K
    induction K with
    | nil => intro _ x hx; cases hx
    | cons a K ih =>
      intro pw x hx y hy z
      rw [List.pairwise_cons] at pw
      rcases List.mem_cons.mp hx with h1 | h1 <;> rcases List.mem_cons.mp hy with h2 | h2
      · rw [h1, h2]
      · rw [h1] at z ⊢
        exact (pw.1 y h2).1 z
      · rw [h2] at z ⊢
        exact (pw.1 x h1).2 z
      · exact ih pw.2 x h1 y h2 z
  exact key K pw
theorem Red.lasts_nodup (h : Red n M K) : (K.map lst).Nodup := by
  refine List.pairwise_map.mpr (h.pw.imp_of_mem fun {x y} _ hy z e => z.1 ?_)
  rw [e]
  exact lst_mem (h.ok y hy).2
end
end Dl
/-! Ways and joints. -/
namespace Dl
open PySem PySem.Spec PyProof.Rows L2
/-- two plain rows make a sight -/
structure Mk2 (n : Nat) (t A B : List Int) : Prop where
  lt : t.length = n
  la : A.length = n
  lb : B.length = n
  pa : plainR A
  pb : plainR B
  se : seen A B = t
section
variable {n : Nat} {t A B : List Int}
theorem Mk2.a (m : Mk2 n t A B) {i : Nat} (hi : i < n) : A.getD i 0 = 0 ∨ A.getD i 0 = 1 := by
  have := getDP A m.pa i (by rw [m.la]; exact hi)
  omega
theorem Mk2.b (m : Mk2 n t A B) {i : Nat} (hi : i < n) : B.getD i 0 = 0 ∨ B.getD i 0 = 1 := by
  have := getDP B m.pb i (by rw [m.lb]; exact hi)
  omega
theorem Mk2.one (m : Mk2 n t A B) {i : Nat} (hi : i < n) (h : ¬ t.getD i 0 = 2) : A.getD i 0 = t.getD i 0 ∧ B.getD i 0 = t.getD i 0 := by
  have h1 := m.a hi
  have e := seen_getD A B (by rw [m.la, m.lb]) i (by rw [m.la]; exact hi)
  rw [m.se] at e
  split at e
  · rename_i z
    exact ⟨e.symm, z.symm.trans e.symm⟩
  · exact absurd e h
end
/-! ### folk told apart -/
end Dl
/-! Ways of a company. -/
namespace Dl
open PySem PySem.Spec PyProof.Rows L2
/-- rows that make a sight -/
structure MakeR (n : Nat) (s a b : List Int) : Prop where
  la : a.length = n
  lb : b.length = n
  pa : plainR a
  pb : plainR b
  se : seen a b = s
theorem MakeR.swap {n : Nat} {s a b : List Int} (m : MakeR n s a b) : MakeR n s b a := ⟨m.lb, m.la, m.pb, m.pa, by rw [seen_comm b a]; exact m.se⟩
end Dl
/-! Ways of a company, by number. -/
namespace Dl
open PySem PySem.Spec PyProof.Rows L2
abbrev Prs := List (List Int × List Int)
structure Makes (g : List Int) (fk : Folk) (prs : Prs) : Prop where
  len : prs.length = fk.length
  of : ∀ q ∈ fk.zip prs, MakeR g.length q.1.2 q.2.1 q.2.2
def bitT (t : Bool) : Nat := if t = true then 0 else 1
section
variable {g : List Int} {fk : Folk} {sd : List Said} {prs : Prs} {x : Nat × Nat → Nat}
def upP (p : List Int × List Int) : List Int × List Int := pairUp p.1 p.2
end
end Dl
/-! Joints, by ways. -/
namespace Dl
open PySem PySem.Spec PyProof.Rows L2
section
variable {g : List Int} {fk : Folk} {sd : List Said} {prs : Prs}
theorem Red.len {N M : Nat} {K : List Sm} (h : Red N M K) : K.length ≤ N * N := by
  have o : (K.map lst).Nodup := h.lasts_nodup
  have e := List.Nodup.length_le_of_subset o (l₂ := (List.range N).flatMap fun i => (List.range N).map fun j => (i, j)) fun p hp => by
    obtain ⟨m, hm, rfl⟩ := List.mem_map.mp hp
    have := (h.ok m hm).1.n _ (lst_mem (h.ok m hm).2)
    exact List.mem_flatMap.mpr ⟨(lst m).1, List.mem_range.mpr this.1, List.mem_map.mpr ⟨(lst m).2, List.mem_range.mpr this.2, rfl⟩⟩
  rw [List.length_map] at e
  have e2 : ((List.range N).flatMap fun i => (List.range N).map fun j => (i, j)).length = N * N := by
    rw [List.length_flatMap]
    simp only [List.length_map, List.length_range, List.map_const', List.sum_replicate_nat]
  omega
end
end Dl
/-! Names are unlike; what the laws reckon of ways. -/
namespace Dl
open PySem PySem.Spec PyProof.Rows L2
theorem ixL {α : Type} {e : α → PyData} {l : List α} {i : Nat} {a : α} (h : l[i]? = some a) : gIx (.list (l.map e)) (nD i) = .ok (.dat (e a)) :=
  gIx_l (by rw [atI_pos (by omega), Int.toNat_natCast, List.getElem?_map, h]; rfl)
theorem ixT {α : Type} {e : α → PyData} {l : List α} {i : Nat} {a : α} (h : l[i]? = some a) : gIx (.tuple (l.map e)) (nD i) = .ok (.dat (e a)) :=
  gIx_t (by rw [atI_pos (by omega), Int.toNat_natCast, List.getElem?_map, h]; rfl)
theorem ixR {r : List Int} {i : Nat} (h : i < r.length) : gIx (rowD r) (nD i) = .ok (.dat (.int (r.getD i 0))) :=
  ixT (by rw [List.getD_eq_getElem?_getD, List.getElem?_eq_getElem h]; rfl)
theorem ixI {l : List Int} {i : Nat} (h : i < l.length) : gIx (.list (l.map PyData.int)) (nD i) = .ok (.dat (.int (l.getD i 0))) :=
  ixL (by rw [List.getD_eq_getElem?_getD, List.getElem?_eq_getElem h]; rfl)
/-! ### names -/
end Dl
/-! What the laws reckon of ways: borne, kept, good, is_pairs. -/
/-! What the laws reckon of ways: kept, good, is_pairs. -/
/-! is_pairs, sayings. -/
/-! A company of the laws and its Joints. -/
/-! Joints.number_in. -/
namespace Dl
open PySem PySem.Spec PyProof.Rows L2
/-! ### makes_all -/
def PlainPrs (prs : Prs) : Prop := ∀ p ∈ prs, plainR p.1 ∧ plainR p.2
end Dl
/-! Joints.number_in: the number. -/
/-! Numbers of ways: number_in, the order. -/
namespace Dl
open PySem PySem.Spec PyProof.Rows L2
section
variable {g : List Int} {fk : Folk} {sdl : List Said} {prs : Prs}
theorem Makes.plain (m : Makes g fk prs) : PlainPrs prs := by
  intro p hp
  have : prs = (fk.zip prs).map (·.2) := (List.map_snd_zip (by have := m.len; omega)).symm
  rw [this] at hp
  obtain ⟨q, hq, rfl⟩ := List.mem_map.mp hp
  have mk := m.of q hq
  exact ⟨mk.pa, mk.pb⟩
/-! ### the order -/
end
end Dl
/-! Sorted values; the number of a told way. -/
/-! Tellings drawn by a law: what is split, what is turned, what is bent. -/
namespace Dl
open PySem PySem.Spec PyProof.Rows L2
theorem getD_el {α : Type} (l : List α) (d : α) {i : Nat} (h : i < l.length) : l.getD i d = l[i] := by
  rw [List.getD_eq_getElem?_getD, List.getElem?_eq_getElem h]
  rfl
theorem range_pre {n k : Nat} {pre post : List Nat} (h : List.range n = pre ++ k :: post) : k = pre.length ∧ k < n := by
  have h1 : (List.range n)[pre.length]? = some k := by
    rw [h, List.getElem?_append_right (Nat.le_refl _), Nat.sub_self]
    rfl
  have h2 : pre.length < n := by
    have := congrArg List.length h
    rw [List.length_range, List.length_append, List.length_cons] at this
    omega
  rw [List.getElem?_range h2] at h1
  have := Option.some.inj h1
  omega
/-- the first m pairs make the sights of the first m folk -/
structure TlOk (g : List Int) (fk : Folk) (m : Nat) (tl : Prs) : Prop where
  len : tl.length = m
  of : ∀ i, i < m → MakeR g.length (fk.getD i ("", [])).2 (tl.getD i ([], [])).1 (tl.getD i ([], [])).2 ∧ upP (tl.getD i ([], [])) = tl.getD i ([], [])
theorem TlOk.nil {g : List Int} {fk : Folk} : TlOk g fk 0 [] := ⟨rfl, fun i h => by omega⟩
theorem TlOk.snoc {g : List Int} {fk : Folk} {m : Nat} {tl : Prs} (t : TlOk g fk m tl) {p : List Int × List Int} (h : MakeR g.length (fk.getD m ("", [])).2 p.1 p.2) (hu : upP p = p) : TlOk g fk (m + 1) (tl ++ [p]) := by
  refine ⟨by rw [List.length_append, t.len]; rfl, fun i hi => ?_⟩
  rw [List.getD_eq_getElem?_getD (l := tl ++ [p])]
  by_cases h2 : i < m
  · rw [List.getElem?_append_left (by rw [t.len]; exact h2), ← List.getD_eq_getElem?_getD]
    exact t.of i h2
  · have : i = m := by omega
    subst this
    rw [List.getElem?_append_right (by rw [t.len]; exact Nat.le_refl _), t.len, Nat.sub_self]
    exact ⟨h, hu⟩
end Dl
/-! Tellings turned, tellings bent. -/
namespace Dl
open PySem PySem.Spec PyProof.Rows L2
abbrev swapP (p : List Int × List Int) : List Int × List Int := (p.2, p.1)
def Turn (hd tl : Prs) : Prop := hd.length = tl.length ∧ ∀ i, i < tl.length → hd.getD i ([], []) = tl.getD i ([], []) ∨ hd.getD i ([], []) = swapP (tl.getD i ([], []))
theorem Turn.refl (tl : Prs) : Turn tl tl := ⟨rfl, fun i hi => .inl rfl⟩
theorem Turn.symm {hd tl : Prs} (h : Turn hd tl) : Turn tl hd := ⟨h.1.symm, fun i hi => by
  rcases h.2 i (by rw [← h.1]; exact hi) with e | e
  · exact .inl e.symm
  · exact .inr (by rw [e])⟩
theorem Turn.zip {hd tl : Prs} (h : Turn hd tl) {fk : Folk} {q : (Str × List Int) × (List Int × List Int)} (hq : q ∈ fk.zip hd) : ∃ p, (q.1, p) ∈ fk.zip tl ∧ (q.2 = p ∨ q.2 = swapP p) := by
  obtain ⟨i, hi, rfl⟩ := List.mem_iff_getElem.mp hq
  rw [List.length_zip] at hi
  have l := h.1
  have hz : i < (fk.zip tl).length := by rw [List.length_zip]; omega
  refine ⟨tl[i], ?_, ?_⟩
  · have := List.getElem_mem hz
    rw [List.getElem_zip] at this ⊢
    exact this
  · rw [List.getElem_zip]
    have := h.2 i (by omega)
    rw [getD_el hd _ (by omega), getD_el tl _ (by omega)] at this
    exact this
end Dl
/-! The true rows of a company are a way. -/
namespace Dl
open PySem PySem.Spec PyProof.Rows L2
theorem ag_mark (r g : List Int) (hl : g.length = r.length) (hr : plainR r) (hg : plainR g) (i : Nat) (hi : i < r.length) : (ag r g).getD i 0 = if r.getD i 0 ≠ g.getD i 0 then 1 else 0 := by
  rw [show (ag r g).getD i 0 = _ from sp_getD r g hl agM i hi]
  have h1 := getDP r hr i hi
  have h2 := getDP g hg i (by omega)
  unfold agM
  rw [if_neg (by omega)]
  split <;> omega
theorem grown_free {g : List Int} {left : List Nat} {L rows : List (List Int)} (G : Grown g left L) (hg : plainR g) (hs : ∀ r ∈ rows, r ∈ L) (i j : Nat) (hij : i < j) (hj : j < g.length) : bar3 (rows.map fun r => ag r g) i j = false := by
  have key : ∀ x y : Int, ((rows.map fun r => ag r g).any fun r => bears r i j x y) = true → (x = 0 ∨ x = 1) → (y = 0 ∨ y = 1) → pat L g i j (decide (x = 1)) (decide (y = 1)) := by
    intro x y h hx hy
    rw [List.any_map, List.any_eq_true] at h
    obtain ⟨r, hr, h⟩ := h
    have hrl := hs r hr
    have h1 := G.len r hrl
    have h2 := G.plain r hrl
    have h3 : (decide ((ag r g).getD i 0 = x) && decide ((ag r g).getD j 0 = y)) = true := h
    rw [ag_mark r g (by omega) h2 hg i (by omega), ag_mark r g (by omega) h2 hg j (by omega), Bool.and_eq_true, decide_eq_true_eq, decide_eq_true_eq] at h3
    refine ⟨r, hrl, ?_, ?_⟩
    · rw [decide_eq_decide]
      have := h3.1
      split at this
      · rename_i q
        exact ⟨fun _ => this.symm, fun _ => q⟩
      · rename_i q
        exact ⟨fun z => absurd z q, fun z => by omega⟩
    · rw [decide_eq_decide]
      have := h3.2
      split at this
      · rename_i q
        exact ⟨fun _ => this.symm, fun _ => q⟩
      · rename_i q
        exact ⟨fun z => absurd z q, fun z => by omega⟩
  cases hb : bar3 (rows.map fun r => ag r g) i j with
  | false => rfl
  | true =>
    unfold bar3 at hb
    rw [Bool.and_eq_true, Bool.and_eq_true] at hb
    refine absurd ⟨?_, ?_, ?_⟩ (G.free i j (by omega))
    · exact key 0 1 hb.1 (by omega) (by omega)
    · exact key 1 0 hb.2.1 (by omega) (by omega)
    · exact key 1 1 hb.2.2 (by omega) (by omega)
theorem boolsOf_l {α : Type} (l : List α) (p : α → Bool) : boolsOf (l.map fun a => .bool (p a)) = some (l.map p) := by
  induction l with
  | nil => rfl
  | cons x xs ih =>
    rw [List.map_cons, boolsOf, ih]
    rfl
theorem gAll_l {α : Type} (l : List α) (p : α → Bool) : gAllAny (fun bs => bs.all id) [.list (l.map fun a => .bool (p a))] = retB (l.all p) := by
  unfold gAllAny
  simp only [boolsOf_l, List.all_map]
  rfl
end Dl
/-! Parts of a company; sayings or none. -/
namespace Dl
open PySem PySem.Spec PyProof.Rows L2
theorem mod_nat (c : Int) {n : Nat} (h : 0 < n) : ∃ k : Nat, k < n ∧ gMod (.int c) (.int (n : Int)) = .ok (.dat (nD k)) := by
  have k0 : 0 ≤ c % (n : Int) := Int.emod_nonneg _ (by omega)
  have k1 : c % (n : Int) < (n : Int) := Int.emod_lt_of_pos _ (by omega)
  obtain ⟨k, hk⟩ := Int.eq_ofNat_of_zero_le k0
  rw [hk] at k1
  exact ⟨k, by omega, (gMod_ii (by omega)).trans (by rw [hk])⟩
end Dl
/-! Companies by their solutions. -/
/-! Solutions by the sights alone. -/
namespace Dl
open PySem PySem.Spec PyProof.Rows L2
/-- some sight shows the pair p there -/
def shE (g : List Int) (S : List (List Int)) (i j : Nat) (p : Int × Int) : Prop := ∃ r ∈ S, p ∈ showL (ag r g) i j
def three3 (t : List Int) (x : Nat × Nat → Nat) : Prop := ∀ m0 l, mixL t = m0 :: l → ∀ p ∈ pairsG l, (x (m0, p.1) + x (m0, p.2) + x (p.1, p.2)) % 2 = 0
structure SolS (g : List Int) (S : List (List Int)) (sd : List Said) (x : Nat × Nat → Nat) : Prop where
  cl : ∀ p ∈ pairsL g.length, ¬ (shE g S p.1 p.2 (0, 1) ∧ shE g S p.1 p.2 (1, 0) ∧ shE g S p.1 p.2 (1, 1))
  th : ∀ r ∈ S, three3 (ag r g) x
  fo : ∀ p ∈ liveL (S.map fun r => ag r g) g.length, (shE g S p.1 p.2 (1, 1) → x p = 0) ∧ (¬ shE g S p.1 p.2 (1, 1) → shE g S p.1 p.2 (0, 1) → shE g S p.1 p.2 (1, 0) → x p = 1)
  sa : ∀ s ∈ sd, x (s.a, s.b) = bitT s.t
section
variable {g g' : List Int} {fk fk' : Folk} {sd sd' : List Said} {x y : Nat × Nat → Nat}
theorem live_mem {S : List (List Int)} {n : Nat} {p : Nat × Nat} : p ∈ liveL S n ↔ p ∈ pairsL n ∧ ∃ r ∈ S, both2 r p = true := by
  unfold liveL
  rw [List.mem_filter, List.any_eq_true]
theorem live_sub {S S' : List (List Int)} {n : Nat} (h : ∀ r ∈ S, r ∈ S') {p : Nat × Nat} (hp : p ∈ liveL S n) : p ∈ liveL S' n := by
  obtain ⟨a, r, b, c⟩ := live_mem.mp hp
  exact live_mem.mpr ⟨a, r, h r b, c⟩
theorem SolS.mono {S S' : List (List Int)} (hs : ∀ r ∈ S, r ∈ S') (hd : ∀ s ∈ sd, ∃ t ∈ sd', t.a = s.a ∧ t.b = s.b ∧ t.t = s.t) (h : SolS g S' sd' x) : SolS g S sd x := by
  have em : ∀ {i j : Nat} {p : Int × Int}, shE g S i j p → shE g S' i j p := fun ⟨r, hr, z⟩ => ⟨r, hs r hr, z⟩
  refine ⟨fun p hp z => h.cl p hp ⟨em z.1, em z.2.1, em z.2.2⟩, fun r hr => h.th r (hs r hr), fun p hp => ?_, fun s hs => ?_⟩
  · have hp' : p ∈ liveL (S'.map fun r => ag r g) g.length := live_sub (fun r hr => by
      obtain ⟨q, hq, rfl⟩ := List.mem_map.mp hr
      exact List.mem_map_of_mem (hs q hq)) hp
    have hpl := (live_mem.mp hp).1
    exact ⟨fun z => (h.fo p hp').1 (em z), fun n a b => (h.fo p hp').2 (fun z => h.cl p hpl ⟨em a, em b, z⟩) (em a) (em b)⟩
  · obtain ⟨t, ht, a, b, c⟩ := hd s hs
    have := h.sa t ht
    rw [a, b, c] at this
    exact this
end
end Dl
/-! Loose and live pairs, as the program tells them. -/
/-! surely -/
/-! Who bears a row; the values of two companies. -/
namespace Dl
open PySem PySem.Spec PyProof.Rows L2
theorem forSF {α : Type} {l : List Nat} {fi : Env → M (List PyData)} {bd : PyData → Env → M Env} {body g : Env → O} {ρ : Env} {r : O} (e : α → PyData) (ls : List α) (I : List α → Env → Prop) (hfi : fi (fixs ρ l) = .ok (ls.map e)) (h0 : I [] (fixs ρ l))
    (st : ∀ pre a post ρ, ls = pre ++ a :: post → I pre ρ → ∃ ρ1 ρ2, bd (e a) ρ = .ok ρ1 ∧ (body ρ1 = .nx ρ2 ∨ body ρ1 = .ct ρ2) ∧ I (pre ++ [a]) ρ2) (k : ∀ ρ', I ls ρ' → g ρ' = r) : oSeq (oFix l (oForE fi bd body)) g ρ = r :=
  seqP (I ls) (forP (ρ := fixs ρ l) e ls I hfi h0 st) k
theorem setE {i : Nat} {fa : Env → M Sl} {ρ : Env} {sl : Sl} (h : fa ρ = .ok sl) : oSet i fa ρ = .nx (ρ.set i (some sl)) := by
  unfold oSet
  rw [h]
  rfl
/-! ### dict(folk) -/
/-! ### fits -/
/-! ### bearing -/
end Dl
/-! Things put into a drawn order. -/
namespace Dl
open PySem PySem.Spec PyProof.Rows L2
theorem erase_perm {α : Type} : ∀ (l : List α) (m : Nat) (h : m < l.length), (l[m] :: l.eraseIdx m).Perm l
  | a :: l, 0, _ => List.Perm.refl _
  | a :: l, m + 1, h => by
    rw [List.getElem_cons_succ, List.eraseIdx_cons_succ]
    exact (List.Perm.swap _ _ _).trans ((erase_perm l m (by simpa using h)).cons a)
end Dl
/-! In how many ways one bears a row. -/
/-! Rows of a way; numbers refused. -/
namespace Dl
open PySem PySem.Spec PyProof.Rows L2
theorem unlike_rows_spec {n : Nat} {rows : List (List Int)} (hr : ∀ r ∈ rows, r.length = n ∧ ∀ x ∈ r, 0 ≤ x ∧ x < 1000) (hn : 1 ≤ n) (hl : rows.length < 64) : f_unlike_rows [.list (rows.map rowD)] = .ok (.own (.list ((srtSet rows).map rowD))) := by
  have hir : intRows (rows.map rowD) = some rows := intRows_map rows
  have hok : rowsOk rows = true := by
    unfold rowsOk
    cases rows with
    | nil => rfl
    | cons r rows =>
      have h0 := hr r (List.mem_cons_self ..)
      simp only [Bool.and_eq_true, decide_eq_true_eq, List.all_eq_true]
      refine ⟨hl, by show 1 ≤ r.length; omega, fun s hs => ?_⟩
      have h1 := hr s hs
      unfold rowOk
      simp only [Bool.and_eq_true, decide_eq_true_eq, List.all_eq_true]
      exact ⟨by show s.length = r.length; omega, h1.2⟩
  unfold f_unlike_rows o_unlike_rows
  refine fnO_rt rfl ?_
  show oRet _ [sd (.list (rows.map rowD))] = _
  have : gSrtSet (.list (rows.map rowD)) = .ok (.own (.list ((srtSet rows).map rowD))) := by
    unfold gSrtSet
    simp only [hir, hok, if_true]
  simp only [Dl.tOrF, Dl.tAndF, Dl.tNotF, Dl.tOf, Dl.eOp, Dl.eUn, Dl.eC, Dl.eVar, Dl.eCall, Dl.eMeth, Dl.eTup, Dl.eLst, Dl.eIf, Dl.eAndV, Dl.eOrV, Dl.eNotV, Dl.aCons, Dl.aNil, List.getElem?_cons_zero, List.getElem?_cons_succ, Dl.bindN_ok, Dl.Sl.d_dat, Dl.Sl.d_own, Dl.retI, Dl.retB, Dl.isB, if_true, if_false, Bool.false_eq_true, Dl.oOfN_ok, List.set_cons_zero, List.set_cons_succ, Dl.fixs, Dl.Env.fix, Dl.oSet, Dl.oRet, Dl.oMutS, Dl.mMut, this]
end Dl
/-! Rows sorted; the rows of a way by the laws; fewest rows. -/
namespace Dl
open PySem PySem.Spec PyProof.Rows L2
theorem dec_ltL : ∀ xs ys : List Int, decide (xs < ys) = ltL xs ys
  | [], [] => by simp [ltL]
  | [], y :: ys => by simp [ltL]
  | x :: xs, [] => by simp [ltL]
  | x :: xs, y :: ys => by
    rw [ltL]
    by_cases h : x = y
    · subst h
      rw [if_pos rfl, ← dec_ltL xs ys]
      refine decide_eq_decide.mpr ?_
      rw [List.cons_lt_cons_iff]
      exact ⟨fun z => z.elim (fun z => absurd z (Int.lt_irrefl _)) fun z => z.2, fun z => .inr ⟨rfl, z⟩⟩
    · rw [if_neg h]
      refine decide_eq_decide.mpr ?_
      rw [List.cons_lt_cons_iff]
      exact ⟨fun z => z.elim id fun z => absurd z.1 h, fun z => .inl z⟩
theorem le_rowD (a b : List Int) : PySem.W.dataLe false id (rowD a) (rowD b) = !ltL b a := by
  show (!PySem.W.dataLt (rowD b) (rowD a)) = _
  rw [PySem.W.dataLt_tuple]
  have := PySem.W.dataLt_ints b a
  unfold PySem.W.rowLt at this
  rw [this, dec_ltL]
/-! ### fewest rows -/
end Dl
/-! changes, parent_of, tree_of: they answer. -/
namespace Dl
open PySem PySem.Spec PyProof.Rows L2
def whoB (rows : List (List Int)) (g : List Int) (m : Nat) : List Int := ((List.range rows.length).filter fun i => !decide ((rows.getD i []).getD m 0 = g.getD m 0)).map fun (i : Nat) => (i : Int)
theorem enumD_rows (a : List (List Int)) : enumD (a.map rowD) = (List.range a.length).map fun (i : Nat) => PyData.tuple [.int (i : Int), rowD (a.getD i [])] := by
  unfold enumD
  refine List.ext_getElem (by simp) fun i h1 h2 => ?_
  simp at h1 h2
  simp [List.getD, h1]
theorem bearers_spec (rows : List (List Int)) (g : List Int) (m : Nat) (hm : m < g.length) (hr : ∀ r ∈ rows, r.length = g.length) (hl : rows.length ≤ 100) :
    f_bearers [.list (rows.map rowD), rowD g, nD m] = .ok (.dat (rowD (whoB rows g m))) := by
  have eg := ixR (r := g) (i := m) hm
  have lc := lcG (fi := iAr (aCons (eVar 0) aNil) enumOf) (own := [3, 4]) (bd := bTup 2 (bCons (bN 3) (bCons (bN 4) bNil))) (tt := tOf (eOp gNe (eOp gIx (eVar 4) (eVar 2)) (eOp gIx (eVar 1) (eVar 2)))) (fe := eVar 3) (ρ := [sd (.list (rows.map rowD)), sd (rowD g), sd (nD m), none, none])
    (fun (i : Nat) => PyData.tuple [.int (i : Int), rowD (rows.getD i [])]) (List.range rows.length) (fun i => !decide ((rows.getD i []).getD m 0 = g.getD m 0)) (fun (i : Nat) => .int (i : Int)) (by simp only [Dl.tOrF, Dl.tAndF, Dl.tNotF, Dl.tOf, Dl.eOp, Dl.eUn, Dl.eC, Dl.eVar, Dl.eCall, Dl.eMeth, Dl.eTup, Dl.eLst, Dl.eIf, Dl.eAndV, Dl.eOrV, Dl.eNotV, Dl.aCons, Dl.aNil, List.getElem?_cons_zero, List.getElem?_cons_succ, Dl.bindN_ok, Dl.Sl.d_dat, Dl.Sl.d_own, Dl.retI, Dl.retB, Dl.isB, if_true, if_false, Bool.false_eq_true, Dl.oOfN_ok, List.set_cons_zero, List.set_cons_succ, Dl.fixs, Dl.Env.fix, Dl.oSet, Dl.oRet, Dl.oMutS, Dl.mMut, iAr, enumOf, enumD_rows]) (by simp; omega) fun i hi => by
      have hi := List.mem_range.1 hi
      have h : (rows.getD i []) ∈ rows := by rw [show rows.getD i [] = rows[i] by simp [hi]]; exact List.getElem_mem ..
      have e1 := ixR (r := rows.getD i []) (i := m) (by rw [hr _ h]; exact hm)
      refine ⟨[sd (.list (rows.map rowD)), sd (rowD g), sd (nD m), sd (.int (i : Int)), sd (rowD (rows.getD i []))], rfl, ?_, fun _ => ⟨_, rfl, rfl⟩⟩
      simp only [Dl.tOrF, Dl.tAndF, Dl.tNotF, Dl.tOf, Dl.eOp, Dl.eUn, Dl.eC, Dl.eVar, Dl.eCall, Dl.eMeth, Dl.eTup, Dl.eLst, Dl.eIf, Dl.eAndV, Dl.eOrV, Dl.eNotV, Dl.aCons, Dl.aNil, List.getElem?_cons_zero, List.getElem?_cons_succ, Dl.bindN_ok, Dl.Sl.d_dat, Dl.Sl.d_own, Dl.retI, Dl.retB, Dl.isB, if_true, if_false, Bool.false_eq_true, Dl.oOfN_ok, List.set_cons_zero, List.set_cons_succ, Dl.fixs, Dl.Env.fix, Dl.oSet, Dl.oRet, Dl.oMutS, Dl.mMut, e1, eg, gNe_ii]
  unfold f_bearers o_bearers
  refine fnO_rt rfl ?_
  unfold oRet
  simp only [List.map_cons, List.map_nil, List.cons_append, List.nil_append, List.replicate]
  simp only [Dl.tOrF, Dl.tAndF, Dl.tNotF, Dl.tOf, Dl.eOp, Dl.eUn, Dl.eC, Dl.eVar, Dl.eCall, Dl.eMeth, Dl.eTup, Dl.eLst, Dl.eIf, Dl.eAndV, Dl.eOrV, Dl.eNotV, Dl.aCons, Dl.aNil, List.getElem?_cons_zero, List.getElem?_cons_succ, Dl.bindN_ok, Dl.Sl.d_dat, Dl.Sl.d_own, Dl.retI, Dl.retB, Dl.isB, if_true, if_false, Bool.false_eq_true, Dl.oOfN_ok, List.set_cons_zero, List.set_cons_succ, Dl.fixs, Dl.Env.fix, Dl.oSet, Dl.oRet, Dl.oMutS, Dl.mMut, lc, gTuple_l]
  unfold whoB rowD
  rw [List.map_map]
  rfl
theorem keysR (a : List Int) : keysOf (rowD a) = some (a.map Sum.inl) := by
  show keysA (a.map PyData.int) = _
  induction a with
  | nil => rfl
  | cons x xs ih => simp only [List.map_cons, keysA, keyV, ih]; rfl
theorem imm_rowX (l : List Int) : immSl (.dat (rowD l)) = true := immA_ints l
def entG (E : List (List Int × List Int)) : List (PyData × PyData) := E.map fun p => (rowD p.1, rowD p.2)
def putG (E : List (List Int × List Int)) (w ms : List Int) : List (List Int × List Int) := if E.any (fun p => decide (p.1 = w)) = true then E.map (fun p => if p.1 = w then (p.1, ms) else p) else E ++ [(w, ms)]
theorem inl_inj {a b : List Int} : (a.map (Sum.inl (β := Str)) = b.map Sum.inl) ↔ a = b := ⟨fun h => by
  have := congrArg (List.map fun x : Int ⊕ Str => x.elim id fun _ => 0) h
  simpa [List.map_map, Function.comp_def] using this, fun h => by rw [h]⟩
theorem isK_row (w : List Int) (a : List Int) (d : PyData) : isK (w.map Sum.inl) (rowD a, d) = decide (a = w) := by
  unfold isK
  rw [keysR, Bool.eq_iff_iff]
  simp [inl_inj]
theorem getE_entG (w : List Int) : ∀ E : List (List Int × List Int), getE (entG E) (w.map Sum.inl) = (E.find? fun p => decide (p.1 = w)).map fun p => rowD p.2
  | [] => rfl
  | p :: E => by
    have ih := getE_entG w E
    unfold getE entG at ih ⊢
    rw [List.map_cons, List.find?_cons, List.find?_cons, isK_row]
    cases decide (p.1 = w) with
    | true => rfl
    | false => exact ih
theorem putE_entG (w ms : List Int) (E : List (List Int × List Int)) : putE (entG E) (w.map Sum.inl) (rowD ms) = entG (putG E w ms) := by
  have h : (entG E).any (isK (w.map Sum.inl)) = E.any fun p => decide (p.1 = w) := by
    unfold entG
    rw [List.any_map]
    congr 1
    funext p
    exact isK_row w p.1 _
  unfold putE putG
  rw [h]
  split
  · unfold entG
    rw [List.map_map, List.map_map]
    refine List.map_congr_left fun p _ => ?_
    simp only [Function.comp, isK_row, decide_eq_true_eq]
    split <;> rfl
  · have hk : PyData.tuple ((w.map (Sum.inl (β := Str))).map keyD) = rowD w := by
      rw [List.map_map]; rfl
    rw [hk]
    unfold entG
    rw [List.map_append]
    rfl
/-- the dict of changes after some marks -/
def dG (E : List (List Int × List Int)) : PyData := .dict ((.bool true, .none) :: entG E)
def key3 (p : List Int × List Int) : PyData := .tuple [.int (0 - (p.1.length : Int)), .int (p.2.getD 0 0), rowD p.1]
theorem srtOk_key3 (E : List (List Int × List Int)) : srtOk (E.map key3) = true := by
  unfold srtOk
  simp only [Bool.and_eq_true, List.all_eq_true, Bool.or_eq_true, List.mem_map]
  refine ⟨?_, .inl ?_, ?_⟩
  · rintro _ ⟨p, _, rfl⟩ _ ⟨q, _, rfl⟩
    show PySem.W.alikeAll [.int (0 - (p.1.length : Int)), .int (p.2.getD 0 0), rowD p.1] [.int (0 - (q.1.length : Int)), .int (q.2.getD 0 0), rowD q.1] = true
    have : PySem.W.alike (rowD p.1) (rowD q.1) = true := PySem.W.alike_ints p.1 q.1
    simp [PySem.W.alikeAll, PySem.W.alike, this]
    exact PySem.W.alike_ints p.1 q.1
  · rintro _ ⟨p, hp, rfl⟩
    rfl
  · rintro _ ⟨p, _, rfl⟩
    have h1 := dn_lay 2 (key3 p) (show ((dn 1 (.int (0 - (p.1.length : Int)))) && (dn 1 (.int (p.2.getD 0 0)) && (dn 1 (rowD p.1) && true))) = true by rw [dn_int, dn_int, dn_row]; rfl)
    exact ⟨h1.1, decide_eq_true (by omega)⟩
def chD (p : List Int × List Int) : PyData := .tuple [rowD p.1, rowD p.2]
end Dl
/-! parent_of, tree_of: they answer. -/
namespace Dl
open PySem PySem.Spec PyProof.Rows L2
def parT : Env → M Bool := tOf (eCall (gAllAny fun bs => bs.all id) (aCons (eLc (iOf (eOp gIx (eOp gIx (eVar 0) (eVar 1)) (eC (.int 0)))) [3] (bN 3) (fun _ => .ok true) (eOp gIn (eVar 3) (eOp gIx (eOp gIx (eVar 0) (eVar 2)) (eC (.int 0))))) aNil))
end Dl
/-! tree_of: it answers where the rows are borne. -/
namespace Dl
open PySem PySem.Spec PyProof.Rows L2
def rootD : PyData := .tuple [.none, .tuple []]
end Dl
/-! changes: just what it tells. -/
namespace Dl
open PySem PySem.Spec PyProof.Rows L2
def nl (l : List Nat) : List Int := l.map fun (i : Nat) => (i : Int)
theorem nl_inj : ∀ {a b : List Nat}, nl a = nl b ↔ a = b
  | [], [] => by simp
  | [], b :: bs => by simp [nl]
  | a :: as, [] => by simp [nl]
  | a :: as, b :: bs => by
    have := @nl_inj as bs
    unfold nl at this ⊢
    rw [List.map_cons, List.map_cons, List.cons.injEq, List.cons.injEq, this]
    exact and_congr_left fun _ => Int.ofNat_inj
theorem nl_len (l : List Nat) : (nl l).length = l.length := List.length_map ..
theorem rowD_nl (l : List Nat) : rowD (nl l) = .tuple (l.map nD) := by unfold rowD nl; rw [List.map_map]; rfl
/-- the numbers of the rows that are unlike the founder at a mark -/
def wN (U : List (List Int)) (g : List Int) (m : Nat) : List Nat := (List.range U.length).filter fun i => !decide ((U.getD i []).getD m 0 = g.getD m 0)
theorem whoB_nl (U : List (List Int)) (g : List Int) (m : Nat) : whoB U g m = nl (wN U g m) := rfl
abbrev Grp := List (List Nat × List Nat)
def gI (p : List Nat × List Nat) : List Int × List Int := (nl p.1, nl p.2)
structure InvE (U : List (List Int)) (g : List Int) (pre : List Nat) (E : Grp) : Prop where
  nd : (E.map (·.1)).Nodup
  ent : ∀ p ∈ E, p.1 ≠ [] ∧ p.2 ≠ [] ∧ p.2 = pre.filter fun m => decide (wN U g m = p.1)
  all : ∀ m ∈ pre, wN U g m ≠ [] → wN U g m ∈ E.map (·.1)
  len : E.length ≤ pre.length
/-- the marks so far of those who are told -/
def msG (E : Grp) (w : List Nat) : List Nat := ((E.find? fun p => decide (p.1 = w)).map (·.2)).getD []
def putN (E : Grp) (w ms : List Nat) : Grp := if E.any (fun p => decide (p.1 = w)) = true then E.map (fun p => if p.1 = w then (p.1, ms) else p) else E ++ [(w, ms)]
theorem putG_gI (E : Grp) (w ms : List Nat) : putG (E.map gI) (nl w) (nl ms) = (putN E w ms).map gI := by
  have h : (E.map gI).any (fun p => decide (p.1 = nl w)) = E.any fun p => decide (p.1 = w) := by
    rw [List.any_map]
    congr 1
    funext p
    exact decide_eq_decide.mpr nl_inj
  unfold putG putN
  rw [h]
  split
  · rw [List.map_map, List.map_map]
    refine List.map_congr_left fun p _ => ?_
    show (if nl p.1 = nl w then (nl p.1, nl ms) else gI p) = gI (if p.1 = w then (p.1, ms) else p)
    by_cases e : p.1 = w
    · rw [if_pos e, if_pos (nl_inj.2 e)]; rfl
    · rw [if_neg e, if_neg fun z => e (nl_inj.1 z)]
  · rw [List.map_append]; rfl
theorem find_gI (E : Grp) (w : List Nat) : ((E.map gI).find? fun p => decide (p.1 = nl w)) = (E.find? fun p => decide (p.1 = w)).map gI := by
  rw [List.find?_map]
  congr 2
  funext p
  exact decide_eq_decide.mpr nl_inj
theorem InvE.ms {U : List (List Int)} {g : List Int} {pre : List Nat} {E : Grp} (I : InvE U g pre E) {w : List Nat} (h : w ≠ []) : msG E w = pre.filter fun m => decide (wN U g m = w) := by
  unfold msG
  cases e : E.find? fun p => decide (p.1 = w) with
  | some p =>
    have h1 := List.mem_of_find?_eq_some e
    have h2 : p.1 = w := by have := List.find?_some e; simpa using this
    have h3 := (I.ent p h1).2.2
    rw [h2] at h3
    exact h3
  | none =>
    have h1 := List.find?_eq_none.1 e
    symm
    show _ = []
    rw [List.filter_eq_nil_iff]
    intro m hm z
    have z : wN U g m = w := by simpa using z
    obtain ⟨p, hp, e2⟩ := List.mem_map.1 (I.all m hm (by rw [z]; exact h))
    exact h1 p hp (by rw [e2, z]; simp)
theorem InvE.skip {U : List (List Int)} {g : List Int} {pre : List Nat} {E : Grp} {m : Nat} (I : InvE U g pre E) (h : wN U g m = []) : InvE U g (pre ++ [m]) E where
  nd := I.nd
  ent p hp := by
    obtain ⟨h1, h2, h3⟩ := I.ent p hp
    refine ⟨h1, h2, ?_⟩
    rw [List.filter_append, ← h3, List.filter_cons_of_neg (by rw [h]; simp; exact fun e => h1 e), List.filter_nil, List.append_nil]
  all k hk hw := by
    rcases List.mem_append.1 hk with hk | hk
    · exact I.all k hk hw
    · rw [List.mem_singleton.1 hk] at hw
      exact absurd h hw
  len := by rw [List.length_append]; have := I.len; omega
theorem putN_keys (E : Grp) (w ms : List Nat) : (putN E w ms).map (·.1) = if E.any (fun p => decide (p.1 = w)) = true then E.map (·.1) else E.map (·.1) ++ [w] := by
  unfold putN
  split
  · rw [List.map_map]
    refine List.map_congr_left fun p _ => ?_
    show (if p.1 = w then (p.1, ms) else p).1 = p.1
    split <;> rfl
  · rw [List.map_append]; rfl
theorem InvE.put {U : List (List Int)} {g : List Int} {pre : List Nat} {E : Grp} {m : Nat} (I : InvE U g pre E) (h : wN U g m ≠ []) : InvE U g (pre ++ [m]) (putN E (wN U g m) (msG E (wN U g m) ++ [m])) := by
  have hms := I.ms h
  have hany : E.any (fun p => decide (p.1 = wN U g m)) = true ↔ wN U g m ∈ E.map (·.1) := by
    rw [List.any_eq_true, List.mem_map]
    exact ⟨fun ⟨p, h1, h2⟩ => ⟨p, h1, by simpa using h2⟩, fun ⟨p, h1, h2⟩ => ⟨p, h1, by simpa using h2⟩⟩
  have hf : ∀ w : List Nat, ((pre ++ [m]).filter fun k => decide (wN U g k = w)) = (pre.filter fun k => decide (wN U g k = w)) ++ (if wN U g m = w then [m] else []) := by
    intro w
    rw [List.filter_append]
    congr 1
    by_cases e : wN U g m = w
    · rw [if_pos e, List.filter_cons_of_pos (by simpa using e), List.filter_nil]
    · rw [if_neg e, List.filter_cons_of_neg (by simpa using e), List.filter_nil]
  refine ⟨?_, ?_, ?_, ?_⟩
  · rw [putN_keys]
    split
    · exact I.nd
    · rename_i hn
      rw [List.nodup_append]
      refine ⟨I.nd, by simp, fun a ha b hb => ?_⟩
      rw [List.mem_singleton.1 hb]
      rintro rfl
      exact hn (hany.2 ha)
  · intro p hp
    rw [hf]
    have h2 : ∀ p : List Nat × List Nat, p.1 ≠ wN U g m → p ∈ E → p.1 ≠ [] ∧ p.2 ≠ [] ∧ p.2 = (pre.filter fun k => decide (wN U g k = p.1)) ++ (if wN U g m = p.1 then [m] else []) := fun p hne hp => by
      obtain ⟨a1, a2, a3⟩ := I.ent p hp
      exact ⟨a1, a2, by rw [if_neg (fun e => hne e.symm), List.append_nil]; exact a3⟩
    unfold putN at hp
    split at hp
    · obtain ⟨q, hq, rfl⟩ := List.mem_map.1 hp
      by_cases e : q.1 = wN U g m
      · rw [if_pos e]
        exact ⟨by rw [e]; exact h, by simp, by rw [e, if_pos rfl, hms]⟩
      · have e2 : (if q.1 = wN U g m then (q.1, msG E (wN U g m) ++ [m]) else q) = q := if_neg e
        rw [e2] at hp ⊢
        exact h2 q e hq
    · rename_i hn
      rcases List.mem_append.1 hp with hp | hp
      · exact h2 p (fun e => hn (hany.2 (e ▸ List.mem_map_of_mem hp))) hp
      · rw [List.mem_singleton.1 hp]
        exact ⟨h, by simp, by show _ = _ ++ (if wN U g m = wN U g m then [m] else []); rw [if_pos rfl, hms]⟩
  · intro k hk hw
    rw [putN_keys]
    rcases List.mem_append.1 hk with hk | hk
    · have := I.all k hk hw
      split
      · exact this
      · exact List.mem_append_left _ this
    · rw [List.mem_singleton.1 hk]
      split
      · rename_i ha
        exact hany.1 ha
      · exact List.mem_append_right _ (List.mem_singleton.2 rfl)
  · have := I.len
    unfold putN
    rw [List.length_append]
    split
    · rw [List.length_map]; omega
    · rw [List.length_append]; simp; omega
theorem gGet2_gI (E : Grp) (w : List Nat) : gGet2T (dG (E.map gI)) (rowD (nl w)) (.tuple []) = .ok (.dat (rowD (nl (msG E w)))) := by
  unfold gGet2T dG
  simp only [keysR]
  rw [getE_entG, find_gI]
  unfold msG
  cases E.find? fun p => decide (p.1 = w) <;> rfl
theorem wN_len (U : List (List Int)) (g : List Int) (m : Nat) : (wN U g m).length ≤ U.length := by
  have := List.length_filter_le (fun i => !decide ((U.getD i []).getD m 0 = g.getD m 0)) (List.range U.length)
  rw [List.length_range] at this
  exact this
theorem changes_loop2 (U : List (List Int)) (g : List Int) (hn : g.length ≤ 1000) (hr : ∀ r ∈ U, r.length = g.length) (hl : U.length ≤ 100) :
    ∃ ρ', oForE (iAr (aCons (eCall gLen (aCons (eVar 1) aNil)) aNil) rng1Of) (bN 3) (oSeq (oSet 5 (eCall f_bearers (aCons (eVar 0) (aCons (eVar 1) (aCons (eVar 3) aNil)))))
    (oIf (tOf (eOp (gCmp .Gt) (eCall gLen (aCons (eVar 5) aNil)) (eC (.int 0)))) (oPutT 2 (ePub (eOp gAdd (eGet2T (eVar 2) (eVar 5) (eTup aNil)) (eTup (aCons (eVar 3) aNil)))) (ePub (eVar 5))) oNx))
      [sd (.list (U.map rowD)), sd (rowD g), so (dG []), none, none, none, none, none] = .nx ρ' ∧
      ∃ E x3 x5, InvE U g (List.range g.length) E ∧ ρ' = [sd (.list (U.map rowD)), sd (rowD g), so (dG (E.map gI)), x3, none, x5, none, none] := by
  have hlen : gLen [rowD g] = retI (g.length : Int) := by rw [gLen_t, List.length_map]
  refine forP nD (List.range g.length) (fun pre ρ => ∃ E x3 x5, InvE U g pre E ∧ ρ = [sd (.list (U.map rowD)), sd (rowD g), so (dG (E.map gI)), x3, none, x5, none, none]) ?_ ⟨[], none, none, ⟨List.nodup_nil, (fun _ h => nomatch h), (fun _ h => nomatch h), Nat.le_refl _⟩, rfl⟩ ?_
  · simp only [Dl.tOrF, Dl.tAndF, Dl.tNotF, Dl.tOf, Dl.eOp, Dl.eUn, Dl.eC, Dl.eVar, Dl.eCall, Dl.eMeth, Dl.eTup, Dl.eLst, Dl.eIf, Dl.eAndV, Dl.eOrV, Dl.eNotV, Dl.aCons, Dl.aNil, List.getElem?_cons_zero, List.getElem?_cons_succ, Dl.bindN_ok, Dl.Sl.d_dat, Dl.Sl.d_own, Dl.retI, Dl.retB, Dl.isB, if_true, if_false, Bool.false_eq_true, Dl.oOfN_ok, List.set_cons_zero, List.set_cons_succ, Dl.fixs, Dl.Env.fix, Dl.oSet, Dl.oRet, Dl.oMutS, Dl.mMut, iAr, hlen, rng1_i (show -1000000 ≤ (g.length : Int) by omega) (show (g.length : Int) ≤ 1000000 by omega), Int.toNat_natCast, rng_map]
  · rintro pre m post ρ hs ⟨E, x3, x5, I, rfl⟩
    have hm : m < g.length := List.mem_range.1 (by rw [hs]; simp)
    have hpl : pre.length < g.length := by
      have := congrArg List.length hs
      rw [List.length_range, List.length_append, List.length_cons] at this
      omega
    have bs := bearers_spec U g m hm hr hl
    rw [whoB_nl] at bs
    have hw2 := wN_len U g m
    have hwl : gLen [rowD (nl (wN U g m))] = retI ((wN U g m).length : Int) := by rw [gLen_t, List.length_map, nl_len]
    refine ⟨[sd (.list (U.map rowD)), sd (rowD g), so (dG (E.map gI)), sd (nD m), none, x5, none, none], ?_⟩
    by_cases h0 : wN U g m = []
    · refine ⟨[sd (.list (U.map rowD)), sd (rowD g), so (dG (E.map gI)), sd (nD m), none, sd (rowD (nl (wN U g m))), none, none], rfl, .inl ?_, E, _, _, I.skip h0, rfl⟩
      refine seqN (ρ' := [sd (.list (U.map rowD)), sd (rowD g), so (dG (E.map gI)), sd (nD m), none, sd (rowD (nl (wN U g m))), none, none]) (by simp only [Dl.tOrF, Dl.tAndF, Dl.tNotF, Dl.tOf, Dl.eOp, Dl.eUn, Dl.eC, Dl.eVar, Dl.eCall, Dl.eMeth, Dl.eTup, Dl.eLst, Dl.eIf, Dl.eAndV, Dl.eOrV, Dl.eNotV, Dl.aCons, Dl.aNil, List.getElem?_cons_zero, List.getElem?_cons_succ, Dl.bindN_ok, Dl.Sl.d_dat, Dl.Sl.d_own, Dl.retI, Dl.retB, Dl.isB, if_true, if_false, Bool.false_eq_true, Dl.oOfN_ok, List.set_cons_zero, List.set_cons_succ, Dl.fixs, Dl.Env.fix, Dl.oSet, Dl.oRet, Dl.oMutS, Dl.mMut, bs]) (ifN_f ?_ rfl)
      simp only [Dl.tOrF, Dl.tAndF, Dl.tNotF, Dl.tOf, Dl.eOp, Dl.eUn, Dl.eC, Dl.eVar, Dl.eCall, Dl.eMeth, Dl.eTup, Dl.eLst, Dl.eIf, Dl.eAndV, Dl.eOrV, Dl.eNotV, Dl.aCons, Dl.aNil, List.getElem?_cons_zero, List.getElem?_cons_succ, Dl.bindN_ok, Dl.Sl.d_dat, Dl.Sl.d_own, Dl.retI, Dl.retB, Dl.isB, if_true, if_false, Bool.false_eq_true, Dl.oOfN_ok, List.set_cons_zero, List.set_cons_succ, Dl.fixs, Dl.Env.fix, Dl.oSet, Dl.oRet, Dl.oMutS, Dl.mMut, hwl, h0]
      rfl
    · have I2 := I.put h0
      have hml : (msG E (wN U g m)).length ≤ 1000 := by
        rw [I.ms h0]
        have := List.length_filter_le (fun k => decide (wN U g k = wN U g m)) pre
        omega
      have hEl := I.len
      have pg := putG_gI E (wN U g m) (msG E (wN U g m) ++ [m])
      have hg2 := gGet2_gI E (wN U g m)
      generalize hw : wN U g m = w at *
      generalize hms : msG E w = ms at *
      refine ⟨[sd (.list (U.map rowD)), sd (rowD g), so (dG ((putN E w (ms ++ [m])).map gI)), sd (nD m), none, sd (rowD (nl w)), none, none], rfl, .inl ?_, putN E w (ms ++ [m]), _, _, I2, rfl⟩
      refine seqN (ρ' := [sd (.list (U.map rowD)), sd (rowD g), so (dG (E.map gI)), sd (nD m), none, sd (rowD (nl w)), none, none]) (by simp only [Dl.tOrF, Dl.tAndF, Dl.tNotF, Dl.tOf, Dl.eOp, Dl.eUn, Dl.eC, Dl.eVar, Dl.eCall, Dl.eMeth, Dl.eTup, Dl.eLst, Dl.eIf, Dl.eAndV, Dl.eOrV, Dl.eNotV, Dl.aCons, Dl.aNil, List.getElem?_cons_zero, List.getElem?_cons_succ, Dl.bindN_ok, Dl.Sl.d_dat, Dl.Sl.d_own, Dl.retI, Dl.retB, Dl.isB, if_true, if_false, Bool.false_eq_true, Dl.oOfN_ok, List.set_cons_zero, List.set_cons_succ, Dl.fixs, Dl.Env.fix, Dl.oSet, Dl.oRet, Dl.oMutS, Dl.mMut, bs]) (ifN_t ?_ ?_)
      · have : 0 < w.length := List.length_pos_iff.2 h0
        simp only [Dl.tOrF, Dl.tAndF, Dl.tNotF, Dl.tOf, Dl.eOp, Dl.eUn, Dl.eC, Dl.eVar, Dl.eCall, Dl.eMeth, Dl.eTup, Dl.eLst, Dl.eIf, Dl.eAndV, Dl.eOrV, Dl.eNotV, Dl.aCons, Dl.aNil, List.getElem?_cons_zero, List.getElem?_cons_succ, Dl.bindN_ok, Dl.Sl.d_dat, Dl.Sl.d_own, Dl.retI, Dl.retB, Dl.isB, if_true, if_false, Bool.false_eq_true, Dl.oOfN_ok, List.set_cons_zero, List.set_cons_succ, Dl.fixs, Dl.Env.fix, Dl.oSet, Dl.oRet, Dl.oMutS, Dl.mMut, hwl, gCmp_ii, show cmpI .Gt (w.length : Int) 0 = true from decide_eq_true (by omega)]
      · have ha : gAdd (rowD (nl ms)) (.tuple [nD m]) = .ok (.dat (rowD (nl (ms ++ [m])))) := by
          unfold rowD
          rw [gAdd_tt (by simp [nl_len]; omega)]
          unfold nl
          rw [List.map_append, List.map_append]
          rfl
        have hfx : fixAll [sd (.list (U.map rowD)), sd (rowD g), so (dG (E.map gI)), sd (nD m), none, sd (rowD (nl w)), none, none] = [sd (.list (U.map rowD)), sd (rowD g), sd (dG (E.map gI)), sd (nD m), none, sd (rowD (nl w)), none, none] := rfl
        have e1 : eGet2T (eVar 2) (eVar 5) (eTup aNil) [sd (.list (U.map rowD)), sd (rowD g), sd (dG (E.map gI)), sd (nD m), none, sd (rowD (nl w)), none, none] = .ok (.dat (rowD (nl ms))) := hg2
        have e2 : ePub (eOp gAdd (eGet2T (eVar 2) (eVar 5) (eTup aNil)) (eTup (aCons (eVar 3) aNil))) [sd (.list (U.map rowD)), sd (rowD g), so (dG (E.map gI)), sd (nD m), none, sd (rowD (nl w)), none, none] = .ok (.dat (rowD (nl (ms ++ [m])))) := by
          unfold ePub
          rw [hfx]
          have e3 : eTup (aCons (eVar 3) aNil) [sd (.list (U.map rowD)), sd (rowD g), sd (dG (E.map gI)), sd (nD m), none, sd (rowD (nl w)), none, none] = .ok (.dat (.tuple [nD m])) := rfl
          unfold eOp
          rw [e1, bindN_ok, e3, bindN_ok]
          show pubM (gAdd (rowD (nl ms)) (.tuple [nD m])) = _
          rw [ha]
          exact pubM_ok (imm_rowX _)
        have e4 : ePub (eVar 5) [sd (.list (U.map rowD)), sd (rowD g), so (dG (E.map gI)), sd (nD m), none, sd (rowD (nl w)), none, none] = .ok (.dat (rowD (nl w))) := pubM_ok (imm_rowX (nl w))
        unfold oPutT
        rw [e2, oOf_ok]
        show oOf (ePub (eVar 5) [sd (.list (U.map rowD)), sd (rowD g), so (dG (E.map gI)), sd (nD m), none, sd (rowD (nl w)), none, none]) _ = _
        rw [e4, oOf_ok]
        have hb : big ((entG (E.map gI)).length + 1) = true := big_lt (by unfold entG; rw [List.length_map, List.length_map]; omega)
        simp only [Sl.d_dat, keysR, hb, if_true, putE_entG, pg]
        rfl
end Dl
/-! changes, parent_of, tree_of: just what they tell. -/
namespace Dl
open PySem PySem.Spec PyProof.Rows L2
def flI (p : List Int × List Int) : List Int := (0 - (p.1.length : Int)) :: p.2.getD 0 0 :: p.1
theorem le_key3 (a b : List Int × List Int) : PySem.W.dataLe false id (key3 a) (key3 b) = !ltL (flI b) (flI a) := by
  show (!PySem.W.dataLt (key3 b) (key3 a)) = _
  congr 1
  unfold key3 flI
  have e3 : PySem.W.dataLt (rowD b.1) (rowD a.1) = ltL b.1 a.1 := by
    have := le_rowD a.1 b.1
    have h2 : (!PySem.W.dataLt (rowD b.1) (rowD a.1)) = !ltL b.1 a.1 := this
    simpa using h2
  have al : PySem.W.alike (rowD b.1) (rowD a.1) = true := PySem.W.alike_ints b.1 a.1
  have e0 : PyProof.Rows.lexLt itemOrd (PySem.W.keyToksAll []) (PySem.W.keyToksAll []) = false := lex_irrefl _
  have ei : ∀ x y : Int, PyData.eqv (.int x) (.int y) = decide (x = y) := fun x y => by
    rw [Bool.eq_iff_iff, decide_eq_true_eq, dn_eqv 0 0 (.int x) (.int y) rfl rfl]
    exact ⟨fun h => PyData.int.inj h, fun h => by rw [h]⟩
  rw [PySem.W.dataLt_tuple, PySem.W.dataLt_cons (by simp [PySem.W.alike]), PySem.W.dataLt_cons (by simp [PySem.W.alike]), PySem.W.dataLt_cons al, e0, ei, ei, PySem.W.dataLt_int, PySem.W.dataLt_int, e3, ltL, ltL]
  simp only [decide_eq_true_eq]
  split
  · split
    · by_cases h : b.1 = a.1
      · rw [if_pos (eqv_row.2 h), h, ltL_irr]
      · rw [if_neg fun z => h (eqv_row.1 z)]
    · rfl
  · rfl
structure ChgT (U : List (List Int)) (g : List Int) (S : Grp) : Prop where
  nd : (S.map (·.1)).Nodup
  ent : ∀ p ∈ S, p.1 ≠ [] ∧ p.2 ≠ [] ∧ p.2 = (List.range g.length).filter fun m => decide (wN U g m = p.1)
  all : ∀ m, m < g.length → wN U g m ≠ [] → wN U g m ∈ S.map (·.1)
  ord : S.Pairwise fun a b => b.1.length < a.1.length ∨ (b.1.length = a.1.length ∧ a.2.getD 0 0 < b.2.getD 0 0)
  len : S.length ≤ g.length
theorem head_mem {l : List Nat} (h : l ≠ []) : l.getD 0 0 ∈ l := by
  cases l with
  | nil => exact absurd rfl h
  | cons x xs => exact List.mem_cons_self ..
theorem nl_get (l : List Nat) (i : Nat) : (nl l).getD i 0 = ((l.getD i 0 : Nat) : Int) := by
  unfold nl
  simp only [List.getD_eq_getElem?_getD, List.getElem?_map]
  cases l[i]? <;> rfl
def srtG (E : Grp) : Grp := E.mergeSort fun a b => !ltL (flI (gI b)) (flI (gI a))
theorem srtG_perm (E : Grp) : (srtG E).Perm E := List.mergeSort_perm _ _
theorem srtG_chg {U : List (List Int)} {g : List Int} {E : Grp} (I : InvE U g (List.range g.length) E) : ChgT U g (srtG E) := by
  have pm := srtG_perm E
  have nd : ((srtG E).map (·.1)).Nodup := (pm.map (·.1)).nodup_iff.2 I.nd
  have ent : ∀ p ∈ srtG E, p.1 ≠ [] ∧ p.2 ≠ [] ∧ p.2 = (List.range g.length).filter fun m => decide (wN U g m = p.1) := fun p hp => I.ent p (pm.mem_iff.1 hp)
  refine ⟨nd, ent, fun m hm hw => (pm.map (·.1)).mem_iff.2 (I.all m (List.mem_range.2 hm) hw), ?_, by rw [pm.length_eq]; have := I.len; rw [List.length_range] at this; exact this⟩
  have p1 : (srtG E).Pairwise fun a b => (!ltL (flI (gI b)) (flI (gI a))) = true :=
    List.pairwise_mergeSort (fun a b c => leL_trans (flI (gI a)) (flI (gI b)) (flI (gI c))) (fun a b => leL_total (flI (gI a)) (flI (gI b))) E
  have p2 : (srtG E).Pairwise fun a b => a.1 ≠ b.1 := by
    have := nd
    unfold List.Nodup at this
    rw [List.pairwise_map] at this
    exact this
  refine List.Pairwise.imp_of_mem (fun {a b} ha hb h => ?_) (List.Pairwise.and p1 p2)
  obtain ⟨h1, h2⟩ := h
  obtain ⟨_, a2, a3⟩ := ent a ha
  obtain ⟨_, b2, b3⟩ := ent b hb
  have ka := head_mem a2
  have kb := head_mem b2
  have ha1 : wN U g (a.2.getD 0 0) = a.1 := by
    rw [a3] at ka
    have := (List.mem_filter.1 ka).2
    rw [← a3] at this
    simpa using this
  have hb1 : wN U g (b.2.getD 0 0) = b.1 := by
    rw [b3] at kb
    have := (List.mem_filter.1 kb).2
    rw [← b3] at this
    simpa using this
  have hne : a.2.getD 0 0 ≠ b.2.getD 0 0 := fun e => h2 (by rw [← ha1, ← hb1, e])
  have h1 : ltL (flI (gI b)) (flI (gI a)) = false := by simpa using h1
  unfold flI gI at h1
  rw [ltL, ltL, nl_len, nl_len, nl_get, nl_get] at h1
  by_cases e : (0 - (b.1.length : Int)) = 0 - (a.1.length : Int)
  · rw [if_pos e, if_neg (by omega)] at h1
    have := of_decide_eq_false h1
    exact .inr ⟨by omega, by omega⟩
  · rw [if_neg e] at h1
    have := of_decide_eq_false h1
    exact .inl (by omega)
theorem find_key {E : Grp} (nd : (E.map (·.1)).Nodup) {p : List Nat × List Nat} (hp : p ∈ E) : (E.find? fun q => decide (q.1 = p.1)) = some p := by
  induction E with
  | nil => cases hp
  | cons q E ih =>
    rw [List.map_cons, List.nodup_cons] at nd
    rcases List.mem_cons.1 hp with rfl | hp
    · rw [List.find?_cons_of_pos (by simp)]
    · rw [List.find?_cons_of_neg (by simpa using fun e : q.1 = p.1 => nd.1 (e ▸ List.mem_map_of_mem hp))]
      exact ih nd.2 hp
theorem getT_gI {E : Grp} (nd : (E.map (·.1)).Nodup) {p : List Nat × List Nat} (hp : p ∈ E) : gGetT (dG (E.map gI)) (rowD (nl p.1)) = .ok (.dat (rowD (nl p.2))) := by
  have h : getE (entG (E.map gI)) ((nl p.1).map Sum.inl) = some (rowD (nl p.2)) := by
    rw [getE_entG, find_gI, find_key nd hp]
    rfl
  unfold gGetT dG
  simp only [keysR, h]
def chN (p : List Nat × List Nat) : PyData := chD (gI p)
theorem changes_spec (U : List (List Int)) (g : List Int) (hn : g.length ≤ 1000) (hr : ∀ r ∈ U, r.length = g.length) (hl : U.length ≤ 100) :
    ∃ S : Grp, ChgT U g S ∧ f_changes [.list (U.map rowD), rowD g] = .ok (.own (.list (S.map chN))) := by
  obtain ⟨ρ', h1, E, x3, x5, I, rfl⟩ := changes_loop2 U g hn hr hl
  refine ⟨srtG E, srtG_chg I, ?_⟩
  have hEl := I.len
  rw [List.length_range] at hEl
  have hS : (srtG E).length ≤ g.length := by rw [(srtG_perm E).length_eq]; exact hEl
  have hsrt : gSorted [.list (E.map fun p => key3 (gI p))] = .ok (.own (.list ((srtG E).map fun p => key3 (gI p)))) := by
    have := srtOk_key3 (E.map gI)
    rw [List.map_map] at this
    unfold gSorted
    dsimp only
    rw [if_pos (show srtOk (E.map fun p => key3 (gI p)) = true from this), srt_map (fun p => key3 (gI p)) (fun a b => !ltL (flI (gI b)) (flI (gI a))) fun a b => le_key3 (gI a) (gI b)]
    rfl
  have li : eLcIt 2 [5, 7] (bTup 2 (bCons (bN 5) (bCons (bN 7) bNil))) (fun _ => .ok true) (eTup (aCons (eOp gSub (eC (.int 0)) (eCall gLen (aCons (eVar 5) aNil))) (aCons (eOp gIx (eVar 7) (eC (.int 0))) (aCons (eVar 5) aNil)))) [sd (.list (U.map rowD)), sd (rowD g), so (dG (E.map gI)), x3, none, x5, none, none] = .ok (.own (.list (E.map fun p => key3 (gI p)))) := by
    have e0 : itmsT (entG (E.map gI)) = E.map chN := by unfold itmsT entG; rw [List.map_map, List.map_map]; rfl
    have lm := lcF_map (bd := bTup 2 (bCons (bN 5) (bCons (bN 7) bNil))) (fe := eTup (aCons (eOp gSub (eC (.int 0)) (eCall gLen (aCons (eVar 5) aNil))) (aCons (eOp gIx (eVar 7) (eC (.int 0))) (aCons (eVar 5) aNil)))) (ρ := [sd (.list (U.map rowD)), sd (rowD g), none, x3, none, none, none, none]) (e := chN) (fun p => key3 (gI p)) E fun p hp => by
      have hwl : gLen [rowD (nl p.1)] = retI ((nl p.1).length : Int) := by rw [gLen_t, List.length_map]
      have hx := ixR (r := nl p.2) (i := 0) (by rw [nl_len]; exact List.length_pos_iff.2 (I.ent p hp).2.1)
      refine ⟨[sd (.list (U.map rowD)), sd (rowD g), none, x3, none, sd (rowD (nl p.1)), none, sd (rowD (nl p.2))], rfl, .dat (key3 (gI p)), ?_, rfl⟩
      have hx : gIx (rowD (nl p.2)) (.int 0) = .ok (.dat (.int ((nl p.2).getD 0 0))) := hx
      simp only [Dl.tOrF, Dl.tAndF, Dl.tNotF, Dl.tOf, Dl.eOp, Dl.eUn, Dl.eC, Dl.eVar, Dl.eCall, Dl.eMeth, Dl.eTup, Dl.eLst, Dl.eIf, Dl.eAndV, Dl.eOrV, Dl.eNotV, Dl.aCons, Dl.aNil, List.getElem?_cons_zero, List.getElem?_cons_succ, Dl.bindN_ok, Dl.Sl.d_dat, Dl.Sl.d_own, Dl.retI, Dl.retB, Dl.isB, if_true, if_false, Bool.false_eq_true, Dl.oOfN_ok, List.set_cons_zero, List.set_cons_succ, Dl.fixs, Dl.Env.fix, Dl.oSet, Dl.oRet, Dl.oMutS, Dl.mMut, hwl, gSub_ii, hx]
      rfl
    show (lcF _ _ _ (itmsT (entG (E.map gI))) [sd (.list (U.map rowD)), sd (rowD g), none, x3, none, none, none, none]).bind _ = _
    rw [e0, lm, bindN_ok, if_pos (big_lt (by rw [List.length_map]; omega))]
  have lc := lcE (fi := iOf (eVar 4)) (own := [6, 3, 5]) (bd := bTup 3 (bCons (bN 6) (bCons (bN 3) (bCons (bN 5) bNil)))) (fe := eTup (aCons (eVar 5) (aCons (eOp gGetT (eVar 2) (eVar 5)) aNil))) (ρ := [sd (.list (U.map rowD)), sd (rowD g), sd (dG (E.map gI)), x3, sd (.list ((srtG E).map fun p => key3 (gI p))), x5, none, none]) (fun p => key3 (gI p)) (srtG E) chN rfl (by omega) fun p hp => by
    have hg := getT_gI I.nd ((srtG_perm E).mem_iff.1 hp)
    refine ⟨[sd (.list (U.map rowD)), sd (rowD g), sd (dG (E.map gI)), sd (.int ((nl p.2).getD 0 0)), sd (.list ((srtG E).map fun p => key3 (gI p))), sd (rowD (nl p.1)), sd (.int (0 - ((nl p.1).length : Int))), none], rfl, .dat (chN p), ?_, rfl⟩
    simp only [Dl.tOrF, Dl.tAndF, Dl.tNotF, Dl.tOf, Dl.eOp, Dl.eUn, Dl.eC, Dl.eVar, Dl.eCall, Dl.eMeth, Dl.eTup, Dl.eLst, Dl.eIf, Dl.eAndV, Dl.eOrV, Dl.eNotV, Dl.aCons, Dl.aNil, List.getElem?_cons_zero, List.getElem?_cons_succ, Dl.bindN_ok, Dl.Sl.d_dat, Dl.Sl.d_own, Dl.retI, Dl.retB, Dl.isB, if_true, if_false, Bool.false_eq_true, Dl.oOfN_ok, List.set_cons_zero, List.set_cons_succ, Dl.fixs, Dl.Env.fix, Dl.oSet, Dl.oRet, Dl.oMutS, Dl.mMut, hg]
    rfl
  unfold f_changes o_changes
  refine fnO_rt rfl ?_
  refine seqN (ρ' := [sd (.list (U.map rowD)), sd (rowD g), so (dG []), none, none, none, none, none]) rfl ?_
  refine seqN h1 ?_
  refine seqN (ρ' := [sd (.list (U.map rowD)), sd (rowD g), so (dG (E.map gI)), x3, so (.list ((srtG E).map fun p => key3 (gI p))), x5, none, none]) (by simp only [Dl.tOrF, Dl.tAndF, Dl.tNotF, Dl.tOf, Dl.eOp, Dl.eUn, Dl.eC, Dl.eVar, Dl.eCall, Dl.eMeth, Dl.eTup, Dl.eLst, Dl.eIf, Dl.eAndV, Dl.eOrV, Dl.eNotV, Dl.aCons, Dl.aNil, List.getElem?_cons_zero, List.getElem?_cons_succ, Dl.bindN_ok, Dl.Sl.d_dat, Dl.Sl.d_own, Dl.retI, Dl.retB, Dl.isB, if_true, if_false, Bool.false_eq_true, Dl.oOfN_ok, List.set_cons_zero, List.set_cons_succ, Dl.fixs, Dl.Env.fix, Dl.oSet, Dl.oRet, Dl.oMutS, Dl.mMut, li, hsrt]) ?_
  refine fixN ?_
  show oRet _ [sd (.list (U.map rowD)), sd (rowD g), sd (dG (E.map gI)), x3, sd (.list ((srtG E).map fun p => key3 (gI p))), x5, none, none] = _
  unfold oRet
  rw [lc, oOf_ok]
/-! ### the parent -/
theorem gIn_nl (a : Nat) (l : List Nat) : gIn (nD a) (rowD (nl l)) = retB (decide (a ∈ l)) := by
  have h : ((nl l).map PyData.int).all flatD = true := by
    rw [List.all_map]
    exact List.all_eq_true.2 fun _ _ => rfl
  have e : (((nl l).map PyData.int).any fun z => PyData.eqv z (nD a)) = decide (a ∈ l) := by
    rw [Bool.eq_iff_iff, decide_eq_true_eq, List.any_eq_true]
    constructor
    · rintro ⟨z, hz, e⟩
      obtain ⟨x, hx, rfl⟩ := List.mem_map.1 hz
      obtain ⟨i, hi, rfl⟩ := List.mem_map.1 hx
      rw [dn_eqv 0 0 _ _ rfl rfl] at e
      have e : (i : Int) = (a : Int) := PyData.int.inj e
      rw [show a = i by omega]
      exact hi
    · intro ha
      exact ⟨nD a, List.mem_map.2 ⟨_, List.mem_map.2 ⟨a, ha, rfl⟩, rfl⟩, (dn_eqv 0 0 _ _ rfl rfl).2 rfl⟩
  unfold gIn gInB rowD
  dsimp only
  rw [if_pos ⟨rfl, h⟩, e]
  rfl
def subB (a b : List Nat) : Bool := a.all fun x => decide (x ∈ b)
def gw (S : Grp) (k : Nat) : List Nat := (S.getD k ([], [])).1
def gm (S : Grp) (k : Nat) : List Nat := (S.getD k ([], [])).2
def parN (S : Grp) (k : Nat) : Nat := (((List.range k).reverse.find? fun j => subB (gw S k) (gw S j)).map (· + 1)).getD 0
theorem gIx_chN (S : Grp) (i : Nat) (h : i < S.length) : gIx (.list (S.map chN)) (nD i) = .ok (.dat (.tuple [rowD (nl (gw S i)), rowD (nl (gm S i))])) := by
  refine gIx_l ?_
  rw [atI_pos (by omega), List.getElem?_map, Int.toNat_natCast, List.getElem?_eq_getElem h]
  have : S.getD i ([], []) = S[i] := by simp [h]
  unfold gw gm
  rw [this]
  rfl
theorem par_loop2 (S : Grp) (at_ : Nat) (ha : at_ < S.length) (hS : ∀ k, k < S.length → (gw S k).length ≤ 1000) : ∀ (ks : List Nat) (x2 x3 : Option Sl), (∀ k ∈ ks, k < S.length) →
    (ks.find? (fun j => subB (gw S at_) (gw S j)) = none ∧ ∃ x2' x3', oFor (bN 2) (oIf parT (oRet (eOp gAdd (eVar 2) (eC (.int 1)))) oNx) (ks.map nD) [sd (.list (S.map chN)), sd (nD at_), x2, x3] = .nx [sd (.list (S.map chN)), sd (nD at_), x2', x3']) ∨
    ∃ i : Nat, ks.find? (fun j => subB (gw S at_) (gw S j)) = some i ∧ oFor (bN 2) (oIf parT (oRet (eOp gAdd (eVar 2) (eC (.int 1)))) oNx) (ks.map nD) [sd (.list (S.map chN)), sd (nD at_), x2, x3] = .rt (.dat (nD (i + 1)))
  | [], x2, x3, _ => .inl ⟨rfl, x2, x3, rfl⟩
  | k :: ks, x2, x3, hk => by
    have pl := hS at_ ha
    have hkk := hk k (List.mem_cons_self ..)
    have ia := gIx_chN S at_ ha
    have ik := gIx_chN S k hkk
    have j0 : ∀ p q, gIx (.tuple [p, q]) (.int 0) = .ok (.dat p) := fun p q => gIx_t rfl
    have lc := lcE (fi := iOf (eOp gIx (eOp gIx (eVar 0) (eVar 1)) (eC (.int 0)))) (own := [3]) (bd := bN 3) (fe := eOp gIn (eVar 3) (eOp gIx (eOp gIx (eVar 0) (eVar 2)) (eC (.int 0)))) (ρ := [sd (.list (S.map chN)), sd (nD at_), sd (nD k), x3]) nD (gw S at_) (fun a => .bool (decide (a ∈ gw S k))) (by simp only [Dl.tOrF, Dl.tAndF, Dl.tNotF, Dl.tOf, Dl.eOp, Dl.eUn, Dl.eC, Dl.eVar, Dl.eCall, Dl.eMeth, Dl.eTup, Dl.eLst, Dl.eIf, Dl.eAndV, Dl.eOrV, Dl.eNotV, Dl.aCons, Dl.aNil, List.getElem?_cons_zero, List.getElem?_cons_succ, Dl.bindN_ok, Dl.Sl.d_dat, Dl.Sl.d_own, Dl.retI, Dl.retB, Dl.isB, if_true, if_false, Bool.false_eq_true, Dl.oOfN_ok, List.set_cons_zero, List.set_cons_succ, Dl.fixs, Dl.Env.fix, Dl.oSet, Dl.oRet, Dl.oMutS, Dl.mMut, iOf, ia, j0, rowD_nl]; rfl) (by omega) fun a _ => by
      have hg := gIn_nl a (gw S k)
      refine ⟨[sd (.list (S.map chN)), sd (nD at_), sd (nD k), sd (nD a)], rfl, .dat (.bool (decide (a ∈ gw S k))), ?_, rfl⟩
      simp only [Dl.tOrF, Dl.tAndF, Dl.tNotF, Dl.tOf, Dl.eOp, Dl.eUn, Dl.eC, Dl.eVar, Dl.eCall, Dl.eMeth, Dl.eTup, Dl.eLst, Dl.eIf, Dl.eAndV, Dl.eOrV, Dl.eNotV, Dl.aCons, Dl.aNil, List.getElem?_cons_zero, List.getElem?_cons_succ, Dl.bindN_ok, Dl.Sl.d_dat, Dl.Sl.d_own, Dl.retI, Dl.retB, Dl.isB, if_true, if_false, Bool.false_eq_true, Dl.oOfN_ok, List.set_cons_zero, List.set_cons_succ, Dl.fixs, Dl.Env.fix, Dl.oSet, Dl.oRet, Dl.oMutS, Dl.mMut, ik, j0, hg]
    have ga := gAll_l (gw S at_) fun a => decide (a ∈ gw S k)
    rw [List.map_cons, oFor_cons]
    show (_ ∧ ∃ x2' x3', oOf (.ok [sd (.list (S.map chN)), sd (nD at_), sd (nD k), x3]) _ = _) ∨ ∃ i, _ ∧ oOf (.ok [sd (.list (S.map chN)), sd (nD at_), sd (nD k), x3]) _ = _
    simp only [oOf_ok]
    cases hb : subB (gw S at_) (gw S k) with
    | true =>
      refine .inr ⟨k, List.find?_cons_of_pos hb, ?_⟩
      unfold subB at hb
      rw [ifN_t (t := parT) (f := oRet (eOp gAdd (eVar 2) (eC (.int 1)))) (g := oNx) (r := .rt (.dat (nD (k + 1)))) (by unfold parT; simp only [Dl.tOrF, Dl.tAndF, Dl.tNotF, Dl.tOf, Dl.eOp, Dl.eUn, Dl.eC, Dl.eVar, Dl.eCall, Dl.eMeth, Dl.eTup, Dl.eLst, Dl.eIf, Dl.eAndV, Dl.eOrV, Dl.eNotV, Dl.aCons, Dl.aNil, List.getElem?_cons_zero, List.getElem?_cons_succ, Dl.bindN_ok, Dl.Sl.d_dat, Dl.Sl.d_own, Dl.retI, Dl.retB, Dl.isB, if_true, if_false, Bool.false_eq_true, Dl.oOfN_ok, List.set_cons_zero, List.set_cons_succ, Dl.fixs, Dl.Env.fix, Dl.oSet, Dl.oRet, Dl.oMutS, Dl.mMut, lc, ga, hb]) (by simp only [Dl.tOrF, Dl.tAndF, Dl.tNotF, Dl.tOf, Dl.eOp, Dl.eUn, Dl.eC, Dl.eVar, Dl.eCall, Dl.eMeth, Dl.eTup, Dl.eLst, Dl.eIf, Dl.eAndV, Dl.eOrV, Dl.eNotV, Dl.aCons, Dl.aNil, List.getElem?_cons_zero, List.getElem?_cons_succ, Dl.bindN_ok, Dl.Sl.d_dat, Dl.Sl.d_own, Dl.retI, Dl.retB, Dl.isB, if_true, if_false, Bool.false_eq_true, Dl.oOfN_ok, List.set_cons_zero, List.set_cons_succ, Dl.fixs, Dl.Env.fix, Dl.oSet, Dl.oRet, Dl.oMutS, Dl.mMut, gAdd_ii]; rfl)]
    | false =>
      have ih := par_loop2 S at_ ha hS ks (sd (nD k)) x3 fun k h => hk k (List.mem_cons_of_mem _ h)
      rw [List.find?_cons_of_neg (p := fun j => subB (gw S at_) (gw S j)) (by rw [hb]; decide)]
      unfold subB at hb
      rw [ifN_f (t := parT) (f := oRet (eOp gAdd (eVar 2) (eC (.int 1)))) (g := oNx) (r := .nx [sd (.list (S.map chN)), sd (nD at_), sd (nD k), x3]) (by unfold parT; simp only [Dl.tOrF, Dl.tAndF, Dl.tNotF, Dl.tOf, Dl.eOp, Dl.eUn, Dl.eC, Dl.eVar, Dl.eCall, Dl.eMeth, Dl.eTup, Dl.eLst, Dl.eIf, Dl.eAndV, Dl.eOrV, Dl.eNotV, Dl.aCons, Dl.aNil, List.getElem?_cons_zero, List.getElem?_cons_succ, Dl.bindN_ok, Dl.Sl.d_dat, Dl.Sl.d_own, Dl.retI, Dl.retB, Dl.isB, if_true, if_false, Bool.false_eq_true, Dl.oOfN_ok, List.set_cons_zero, List.set_cons_succ, Dl.fixs, Dl.Env.fix, Dl.oSet, Dl.oRet, Dl.oMutS, Dl.mMut, lc, ga, hb]) rfl]
      exact ih
theorem parent_spec (S : Grp) (at_ : Nat) (ha : at_ < S.length) (hl : S.length ≤ 1000) (hS : ∀ k, k < S.length → (gw S k).length ≤ 1000) : f_parent_of [.list (S.map chN), nD at_] = .ok (.dat (nD (parN S at_))) := by
  have hfi : (fun ρ => ((eVar 1) ρ).bind fun x => revRg x.d) [sd (.list (S.map chN)), sd (nD at_), none, none] = .ok (((List.range at_).reverse).map nD) := by
    show revRg (nD at_) = _
    unfold revRg nD
    dsimp only
    rw [if_pos (rngOk_lt (by omega) (by omega)), Int.toNat_natCast, rng_map, List.map_reverse]
  unfold f_parent_of o_parent_of parN
  rcases par_loop2 S at_ ha hS (List.range at_).reverse none none fun k hk => by have := List.mem_range.1 (List.mem_reverse.1 hk); omega with ⟨e, x2, x3, h⟩ | ⟨i, e, h⟩
  · rw [e]
    exact fnO_rt rfl (seqN (forN (fi := fun ρ => ((eVar 1) ρ).bind fun x => revRg x.d) hfi h) rfl)
  · rw [e]
    refine fnO_rt rfl ?_
    exact oSeq_rt (forN (fi := fun ρ => ((eVar 1) ρ).bind fun x => revRg x.d) hfi h)
/-! ### the tree -/
abbrev Tr := List (Nat × List Nat)
def ndD (q : Nat × List Nat) : PyData := .tuple [nD q.1, rowD (nl q.2)]
def treeT (S : Grp) : Tr := (List.range S.length).map fun k => (parN S k, gm S k)
theorem tree_spec (rows U : List (List Int)) (g : List Int) (hb : f_is_borne [.list (rows.map rowD), rowD g] = .ok (.dat (.bool true))) (hu : f_unlike_rows [.list (rows.map rowD)] = .ok (.own (.list (U.map rowD))))
    (hU : ∀ r ∈ U, r.length = g.length) (hl : U.length ≤ 100) (hn : g.length ≤ 1000) {S : Grp} (C : ChgT U g S) (hc : f_changes [.list (U.map rowD), rowD g] = .ok (.own (.list (S.map chN)))) : f_tree_of [.list (rows.map rowD), rowD g] = .ok (.own (.list (rootD :: (treeT S).map ndD))) := by
  have hG := C.len
  have hS : ∀ k, k < S.length → (gw S k).length ≤ 1000 := fun k hk => by
    have e : S.getD k ([], []) = S[k] := by simp [hk]
    have hm : S[k] ∈ S := List.getElem_mem ..
    obtain ⟨h1, h2, h3⟩ := C.ent _ hm
    have kk := head_mem h2
    rw [h3] at kk
    have := (List.mem_filter.1 kk).2
    have e2 := of_decide_eq_true this
    unfold gw
    rw [e, ← e2]
    have := wN_len U g (((List.range g.length).filter fun m => decide (wN U g m = S[k].1)).getD 0 0)
    omega
  have hlen : gLen [.list (S.map chN)] = retI (S.length : Int) := by show retI ((S.map chN).length : Int) = _; rw [List.length_map]
  obtain ⟨ρ', h1, x4, rfl⟩ : ∃ ρ', oForE (iAr (aCons (eCall gLen (aCons (eVar 2) aNil)) aNil) rng1Of) (bN 4) (oFix [2] (oMutS (mMut 3 gAppend (aCons (eTup (aCons (eCall f_parent_of (aCons (eVar 2) (aCons (eVar 4) aNil))) (aCons (eOp gIx (eOp gIx (eVar 2) (eVar 4)) (eC (.int 1))) aNil))) aNil))))
      [sd (.list (rows.map rowD)), sd (rowD g), sd (.list (S.map chN)), so (.list [rootD]), none] = .nx ρ' ∧ ∃ x4, ρ' = [sd (.list (rows.map rowD)), sd (rowD g), sd (.list (S.map chN)), so (.list (rootD :: (treeT S).map ndD)), x4] := by
    refine forP nD (List.range S.length) (fun pre ρ => ∃ x4, ρ = [sd (.list (rows.map rowD)), sd (rowD g), sd (.list (S.map chN)), so (.list (rootD :: (pre.map fun k => ndD (parN S k, gm S k)))), x4]) ?_ ⟨none, rfl⟩ ?_ |>.imp fun ρ' h => ⟨h.1, by obtain ⟨x4, e⟩ := h.2; exact ⟨x4, by rw [e]; unfold treeT; rw [List.map_map]; rfl⟩⟩
    · simp only [Dl.tOrF, Dl.tAndF, Dl.tNotF, Dl.tOf, Dl.eOp, Dl.eUn, Dl.eC, Dl.eVar, Dl.eCall, Dl.eMeth, Dl.eTup, Dl.eLst, Dl.eIf, Dl.eAndV, Dl.eOrV, Dl.eNotV, Dl.aCons, Dl.aNil, List.getElem?_cons_zero, List.getElem?_cons_succ, Dl.bindN_ok, Dl.Sl.d_dat, Dl.Sl.d_own, Dl.retI, Dl.retB, Dl.isB, if_true, if_false, Bool.false_eq_true, Dl.oOfN_ok, List.set_cons_zero, List.set_cons_succ, Dl.fixs, Dl.Env.fix, Dl.oSet, Dl.oRet, Dl.oMutS, Dl.mMut, iAr, hlen, rng1_i (show -1000000 ≤ (S.length : Int) by omega) (show (S.length : Int) ≤ 1000000 by omega), Int.toNat_natCast, rng_map]
    · rintro pre k post ρ hs ⟨x4, rfl⟩
      have hk : k < S.length := List.mem_range.1 (by rw [hs]; simp)
      have hpl : pre.length < S.length := by
        have := congrArg List.length hs
        rw [List.length_range, List.length_append, List.length_cons] at this
        omega
      have hp := parent_spec S k hk (by omega) hS
      have ik := gIx_chN S k hk
      have j1 : ∀ p q, gIx (.tuple [p, q]) (.int 1) = .ok (.dat q) := fun p q => gIx_t rfl
      refine ⟨[sd (.list (rows.map rowD)), sd (rowD g), sd (.list (S.map chN)), so (.list (rootD :: (pre.map fun k => ndD (parN S k, gm S k)))), sd (nD k)], [sd (.list (rows.map rowD)), sd (rowD g), sd (.list (S.map chN)), so (.list (rootD :: ((pre ++ [k]).map fun k => ndD (parN S k, gm S k)))), sd (nD k)], rfl, .inl ?_, _, rfl⟩
      have ha : gAppend (rootD :: (pre.map fun k => ndD (parN S k, gm S k))) [.tuple [nD (parN S k), rowD (nl (gm S k))]] = some (rootD :: (pre.map fun k => ndD (parN S k, gm S k)) ++ [.tuple [nD (parN S k), rowD (nl (gm S k))]], .none) := gAppend_1 (by rw [List.length_cons, List.length_map]; omega)
      refine fixN ?_
      simp only [Dl.tOrF, Dl.tAndF, Dl.tNotF, Dl.tOf, Dl.eOp, Dl.eUn, Dl.eC, Dl.eVar, Dl.eCall, Dl.eMeth, Dl.eTup, Dl.eLst, Dl.eIf, Dl.eAndV, Dl.eOrV, Dl.eNotV, Dl.aCons, Dl.aNil, List.getElem?_cons_zero, List.getElem?_cons_succ, Dl.bindN_ok, Dl.Sl.d_dat, Dl.Sl.d_own, Dl.retI, Dl.retB, Dl.isB, if_true, if_false, Bool.false_eq_true, Dl.oOfN_ok, List.set_cons_zero, List.set_cons_succ, Dl.fixs, Dl.Env.fix, Dl.oSet, Dl.oRet, Dl.oMutS, Dl.mMut, hp, ik, j1, ha, big, List.length_cons, List.length_nil, Nat.reduceAdd, Nat.reduceLeDiff, decide_true, List.map_append]
      rfl
  unfold f_tree_of o_tree_of
  refine fnO_rt rfl ?_
  show oSeq _ _ [sd (.list (rows.map rowD)), sd (rowD g), none, none, none] = _
  refine seqN (ρ' := [sd (.list (rows.map rowD)), sd (rowD g), none, none, none]) (ifN_f (by simp only [Dl.tOrF, Dl.tAndF, Dl.tNotF, Dl.tOf, Dl.eOp, Dl.eUn, Dl.eC, Dl.eVar, Dl.eCall, Dl.eMeth, Dl.eTup, Dl.eLst, Dl.eIf, Dl.eAndV, Dl.eOrV, Dl.eNotV, Dl.aCons, Dl.aNil, List.getElem?_cons_zero, List.getElem?_cons_succ, Dl.bindN_ok, Dl.Sl.d_dat, Dl.Sl.d_own, Dl.retI, Dl.retB, Dl.isB, if_true, if_false, Bool.false_eq_true, Dl.oOfN_ok, List.set_cons_zero, List.set_cons_succ, Dl.fixs, Dl.Env.fix, Dl.oSet, Dl.oRet, Dl.oMutS, Dl.mMut, hb, Bool.not_true]) rfl) ?_
  refine seqN (ρ' := [sd (.list (rows.map rowD)), sd (rowD g), so (.list (S.map chN)), none, none]) (by simp only [Dl.tOrF, Dl.tAndF, Dl.tNotF, Dl.tOf, Dl.eOp, Dl.eUn, Dl.eC, Dl.eVar, Dl.eCall, Dl.eMeth, Dl.eTup, Dl.eLst, Dl.eIf, Dl.eAndV, Dl.eOrV, Dl.eNotV, Dl.aCons, Dl.aNil, List.getElem?_cons_zero, List.getElem?_cons_succ, Dl.bindN_ok, Dl.Sl.d_dat, Dl.Sl.d_own, Dl.retI, Dl.retB, Dl.isB, if_true, if_false, Bool.false_eq_true, Dl.oOfN_ok, List.set_cons_zero, List.set_cons_succ, Dl.fixs, Dl.Env.fix, Dl.oSet, Dl.oRet, Dl.oMutS, Dl.mMut, hu, hc]) ?_
  refine seqN (ρ' := [sd (.list (rows.map rowD)), sd (rowD g), so (.list (S.map chN)), so (.list [rootD]), none]) rfl ?_
  exact seqN (fixN h1) rfl
end Dl
/-! A tree's form: the laws' look at it. -/
namespace Dl
open PySem PySem.Spec PyProof.Rows L2
theorem xSeq {f g : Env → O} {ρ ρ' : Env} {P : Env → Prop} (h : f ρ = .nx ρ') (k : ∃ ρ2, g ρ' = .nx ρ2 ∧ P ρ2) : ∃ ρ2, oSeq f g ρ = .nx ρ2 ∧ P ρ2 := by
  obtain ⟨ρ2, h1, h2⟩ := k
  exact ⟨ρ2, seqN h h1, h2⟩
theorem xSeqE {f g : Env → O} {ρ : Env} {P Q : Env → Prop} (h : ∃ ρ', f ρ = .nx ρ' ∧ Q ρ') (k : ∀ ρ', Q ρ' → ∃ ρ2, g ρ' = .nx ρ2 ∧ P ρ2) : ∃ ρ2, oSeq f g ρ = .nx ρ2 ∧ P ρ2 := by
  obtain ⟨ρ', h1, h2⟩ := h
  exact xSeq h1 (k ρ' h2)
theorem xFor {α : Type} {fi : Env → M (List PyData)} {bd : PyData → Env → M Env} {body g : Env → O} {ρ : Env} {P : Env → Prop} (e : α → PyData) (ls : List α) (I : List α → Env → Prop) (hfi : fi ρ = .ok (ls.map e)) (h0 : I [] ρ)
    (st : ∀ pre a post ρ, ls = pre ++ a :: post → I pre ρ → ∃ ρ1 ρ2, bd (e a) ρ = .ok ρ1 ∧ (body ρ1 = .nx ρ2 ∨ body ρ1 = .ct ρ2) ∧ I (pre ++ [a]) ρ2) (k : ∀ ρ', I ls ρ' → ∃ ρ2, g ρ' = .nx ρ2 ∧ P ρ2) : ∃ ρ2, oSeq (oForE fi bd body) g ρ = .nx ρ2 ∧ P ρ2 :=
  xSeqE (forP e ls I hfi h0 st) k
theorem xEnd {f : Env → O} {ρ ρ' : Env} {P : Env → Prop} (h : f ρ = .nx ρ') (p : P ρ') : ∃ ρ2, f ρ = .nx ρ2 ∧ P ρ2 := ⟨ρ', h, p⟩
theorem stI {d : PyData} {bd : PyData → Env → M Env} {body : Env → O} {ρ : Env} {P : Env → Prop} (ρ1 : Env) (h1 : bd d ρ = .ok ρ1) (h : ∃ ρ2, body ρ1 = .nx ρ2 ∧ P ρ2) : ∃ ρ1 ρ2, bd d ρ = .ok ρ1 ∧ (body ρ1 = .nx ρ2 ∨ body ρ1 = .ct ρ2) ∧ P ρ2 := by
  obtain ⟨ρ2, h2, h3⟩ := h
  exact ⟨ρ1, ρ2, h1, .inl h2, h3⟩
structure TrOk (n : Nat) (T : Tr) : Prop where
  par : ∀ k (h : k < T.length), (T[k]).1 ≤ k
  ne : ∀ q ∈ T, q.2 ≠ []
  lt : ∀ q ∈ T, ∀ m ∈ q.2, m < n
  nd : (T.flatMap (·.2)).Nodup
  up : ∀ q ∈ T, q.2.Pairwise fun a b => a < b
def trL (T : Tr) : List PyData := rootD :: T.map ndD
theorem nodup_lt {l : List Nat} {n : Nat} (nd : l.Nodup) (h : ∀ x ∈ l, x < n) : l.length ≤ n := by
  have pm : l.Perm ((List.range n).filter fun x => decide (x ∈ l)) := (List.perm_ext_iff_of_nodup nd (List.nodup_range.sublist List.filter_sublist)).2 fun a => by
    rw [List.mem_filter, List.mem_range, decide_eq_true_eq]
    exact ⟨fun z => ⟨h a z, z⟩, fun z => z.2⟩
  rw [pm.length_eq]
  have := List.length_filter_le (fun x => decide (x ∈ l)) (List.range n)
  rw [List.length_range] at this
  exact this
theorem up_nodup {l : List Nat} (h : l.Pairwise fun a b => a < b) : l.Nodup := h.imp fun h => Nat.ne_of_lt h
theorem TrOk.marks {n : Nat} {T : Tr} (ok : TrOk n T) : (T.flatMap (·.2)).length ≤ n := nodup_lt ok.nd fun x hx => by
  obtain ⟨q, hq, hx⟩ := List.mem_flatMap.1 hx
  exact ok.lt q hq x hx
theorem TrOk.mlen {n : Nat} {T : Tr} (ok : TrOk n T) {q : Nat × List Nat} (hq : q ∈ T) : q.2.length ≤ n := nodup_lt (up_nodup (ok.up q hq)) (ok.lt q hq)
theorem TrOk.len {n : Nat} {T : Tr} (ok : TrOk n T) : T.length ≤ n := by
  have h := ok.marks
  have : ∀ T : Tr, (∀ q ∈ T, q.2 ≠ []) → T.length ≤ (T.flatMap (·.2)).length := by
    intro T
    induction T with
    | nil => intro _; exact Nat.zero_le _
    | cons q T ih =>
      intro h
      have := ih fun q hq => h q (List.mem_cons_of_mem _ hq)
      have h2 := List.length_pos_iff.2 (h q (List.mem_cons_self ..))
      rw [List.flatMap_cons, List.length_append, List.length_cons]
      omega
  exact Nat.le_trans (this T ok.ne) h
theorem ix_tr {T : Tr} {k : Nat} (h : k < T.length) : gIx (.list (trL T)) (nD (k + 1)) = .ok (.dat (ndD T[k])) := by
  refine gIx_l ?_
  rw [atI_pos (by omega), Int.toNat_natCast]
  unfold trL
  rw [List.getElem?_cons_succ, List.getElem?_map, List.getElem?_eq_getElem h]
  rfl
theorem ix_root (T : Tr) : gIx (.list (trL T)) (.int 0) = .ok (.dat rootD) := gIx_l (by rw [atI_pos (by omega)]; rfl)
theorem len_tr (T : Tr) : gLen [.list (trL T)] = retI ((T.length : Int) + 1) := by
  rw [gLen_l]
  unfold trL
  rw [List.length_cons, List.length_map]
  rfl
theorem rng_one (n : Nat) : rng 1 n = (List.range n).map fun k => nD (k + 1) := by
  unfold rng
  refine List.map_congr_left fun k _ => ?_
  show PyData.int (1 + (k : Int)) = PyData.int ((k + 1 : Nat) : Int)
  congr 1
  omega
theorem rng_tr {T : Tr} (h : T.length ≤ 1000) : rng2Of [.int 1, .int ((T.length : Int) + 1)] = .ok ((List.range T.length).map fun k => nD (k + 1)) := by
  rw [rng2_i (by omega) (by omega) (by omega) (by omega), show ((T.length : Int) + 1 - 1).toNat = T.length by omega, rng_one]
theorem le_nD' (a b : Nat) : PySem.W.dataLe false id (nD a) (nD b) = decide (a ≤ b) := by
  show (!PySem.W.dataLt (nD b) (nD a)) = _
  unfold nD
  rw [PySem.W.dataLt_int, Bool.eq_iff_iff]
  simp
theorem srtOk_nD' (l : List Nat) : srtOk (l.map nD) = true := by
  unfold srtOk
  simp only [Bool.and_eq_true, List.all_eq_true, Bool.or_eq_true, List.mem_map]
  refine ⟨?_, .inr ?_, ?_⟩
  · rintro _ ⟨p, _, rfl⟩ _ ⟨q, _, rfl⟩; rfl
  · rintro _ ⟨p, _, rfl⟩; rfl
  · rintro _ ⟨p, _, rfl⟩
    exact ⟨rfl, rfl⟩
theorem srt_nD (l : List Nat) : srt (l.map nD) = (l.mergeSort fun a b => decide (a ≤ b)).map nD := srt_map nD _ le_nD' l
theorem srt_up {l : List Nat} (h : l.Pairwise fun a b => a < b) : srt (l.map nD) = l.map nD := by
  rw [srt_nD, List.mergeSort_of_pairwise (h.imp fun h => decide_eq_true (Nat.le_of_lt h))]
theorem sortedU_up {l : List Nat} (h : l.Pairwise fun a b => a < b) : gSortedU [rowD (nl l)] = .ok (.own (.list (l.map nD))) := by
  rw [rowD_nl]
  unfold gSortedU
  dsimp only
  rw [if_pos (srtOk_nD' l), srt_up h]
theorem dn_nats (l : List Nat) : dm 1 (.list (l.map nD)) = true := dm_lst (n := 0) (e := nD) (fun _ => rfl) l
theorem gIn_nats (x : Nat) (l : List Nat) : gIn (nD x) (.list (l.map nD)) = retB (decide (x ∈ l)) := gIn_dn nD 0 (fun a => dn_int 0 _) (by decide) nD_inj x l
theorem tree_is (T : Tr) (n : Nat) (ok : TrOk n T) (hn : n ≤ 1000) : f_law_is_tree [.list (trL T), nD n] = .ok (.dat (.bool true)) := by
  have hT := ok.len
  have ln := len_tr T
  have i0 := ix_root T
  have rg := rng_tr (T := T) (by omega)
  have z0 : decide ((T.length : Int) + 1 = 0) = false := decide_eq_false (by omega)
  have isl : gIsi "list" (.list (trL T)) = retB true := isi_list_list
  have hne : gNe rootD (.tuple [.none, .tuple []]) = retB false := rfl
  unfold f_law_is_tree o_law_is_tree
  refine fnO_rt rfl ?_
  show oSeq _ _ [sd (.list (trL T)), sd (nD n), none, none, none, none] = _
  refine seqN (ρ' := [sd (.list (trL T)), sd (nD n), none, none, none, none]) (ifN_f ?_ rfl) ?_
  · simp only [Dl.tOrF, Dl.tAndF, Dl.tNotF, Dl.tOf, Dl.eOp, Dl.eUn, Dl.eC, Dl.eVar, Dl.eCall, Dl.eMeth, Dl.eTup, Dl.eLst, Dl.eIf, Dl.eAndV, Dl.eOrV, Dl.eNotV, Dl.aCons, Dl.aNil, List.getElem?_cons_zero, List.getElem?_cons_succ, Dl.bindN_ok, Dl.Sl.d_dat, Dl.Sl.d_own, Dl.retI, Dl.retB, Dl.isB, if_true, if_false, Bool.false_eq_true, Dl.oOfN_ok, List.set_cons_zero, List.set_cons_succ, Dl.fixs, Dl.Env.fix, Dl.oSet, Dl.oRet, Dl.oMutS, Dl.mMut, eIsi, isl, Bool.not_true, ln, gEq_ii, z0, i0, List.length_nil, List.length_cons, big, Nat.reduceAdd, Nat.reduceLeDiff, decide_true, hne]
  refine seqN (ρ' := [sd (.list (trL T)), sd (nD n), so (.list []), none, none, none]) rfl ?_
  refine forS (fun d : PyData => d) (trL T) (fun _ ρ => ∃ x3, ρ = [sd (.list (trL T)), sd (nD n), so (.list []), x3, none, none]) (by simp only [Dl.tOrF, Dl.tAndF, Dl.tNotF, Dl.tOf, Dl.eOp, Dl.eUn, Dl.eC, Dl.eVar, Dl.eCall, Dl.eMeth, Dl.eTup, Dl.eLst, Dl.eIf, Dl.eAndV, Dl.eOrV, Dl.eNotV, Dl.aCons, Dl.aNil, List.getElem?_cons_zero, List.getElem?_cons_succ, Dl.bindN_ok, Dl.Sl.d_dat, Dl.Sl.d_own, Dl.retI, Dl.retB, Dl.isB, if_true, if_false, Bool.false_eq_true, Dl.oOfN_ok, List.set_cons_zero, List.set_cons_succ, Dl.fixs, Dl.Env.fix, Dl.oSet, Dl.oRet, Dl.oMutS, Dl.mMut, iOf, List.map_id']; rfl) ⟨none, rfl⟩ ?_ ?_
  · rintro pre a post ρ hpre ⟨x3, rfl⟩
    obtain ⟨p, l, rfl⟩ : ∃ p l, a = .tuple [p, .tuple l] := by
      have ha : a ∈ trL T := by rw [hpre]; simp
      rcases List.mem_cons.1 ha with rfl | ha
      · exact ⟨_, _, rfl⟩
      · obtain ⟨q, _, rfl⟩ := List.mem_map.1 ha
        exact ⟨_, _, rfl⟩
    refine ⟨_, [sd (.list (trL T)), sd (nD n), so (.list []), sd (.tuple [p, .tuple l]), none, none], rfl, .inl (ifN_f ?_ rfl), _, rfl⟩
    have j1 : gIx (.tuple [p, .tuple l]) (.int 1) = .ok (.dat (.tuple l)) := gIx_t rfl
    have l2 : gLen [.tuple [p, .tuple l]] = retI 2 := rfl
    have n2 : gNe (.int 2) (.int 2) = retB false := rfl
    simp only [Dl.tOrF, Dl.tAndF, Dl.tNotF, Dl.tOf, Dl.eOp, Dl.eUn, Dl.eC, Dl.eVar, Dl.eCall, Dl.eMeth, Dl.eTup, Dl.eLst, Dl.eIf, Dl.eAndV, Dl.eOrV, Dl.eNotV, Dl.aCons, Dl.aNil, List.getElem?_cons_zero, List.getElem?_cons_succ, Dl.bindN_ok, Dl.Sl.d_dat, Dl.Sl.d_own, Dl.retI, Dl.retB, Dl.isB, if_true, if_false, Bool.false_eq_true, Dl.oOfN_ok, List.set_cons_zero, List.set_cons_succ, Dl.fixs, Dl.Env.fix, Dl.oSet, Dl.oRet, Dl.oMutS, Dl.mMut, eIsi, isi_tuple_tuple, Bool.not_true, l2, n2, j1]
  rintro ρ ⟨x3, rfl⟩
  refine forS (fun k => nD (k + 1)) (List.range T.length) (fun pre ρ => ∃ x4 x5, ρ = [sd (.list (trL T)), sd (nD n), so (.list (((T.take pre.length).flatMap (·.2)).map nD)), x3, x4, x5]) ?_ ⟨none, none, rfl⟩ ?_ ?_
  · simp only [Dl.tOrF, Dl.tAndF, Dl.tNotF, Dl.tOf, Dl.eOp, Dl.eUn, Dl.eC, Dl.eVar, Dl.eCall, Dl.eMeth, Dl.eTup, Dl.eLst, Dl.eIf, Dl.eAndV, Dl.eOrV, Dl.eNotV, Dl.aCons, Dl.aNil, List.getElem?_cons_zero, List.getElem?_cons_succ, Dl.bindN_ok, Dl.Sl.d_dat, Dl.Sl.d_own, Dl.retI, Dl.retB, Dl.isB, if_true, if_false, Bool.false_eq_true, Dl.oOfN_ok, List.set_cons_zero, List.set_cons_succ, Dl.fixs, Dl.Env.fix, Dl.oSet, Dl.oRet, Dl.oMutS, Dl.mMut, iAr, ln, rg]
  · rintro pre k post ρ hpre ⟨x4, x5, rfl⟩
    obtain ⟨hk, hk2⟩ := range_pre hpre
    subst hk
    have ik := ix_tr hk2
    have hq : T[pre.length] ∈ T := List.getElem_mem ..
    have hp := ok.par _ hk2
    have hm := ok.ne _ hq
    have hlt := ok.lt _ hq
    have hup := ok.up _ hq
    have hml := ok.mlen hq
    have tk : T.take (pre.length + 1) = T.take pre.length ++ [T[pre.length]] := by rw [List.take_append_getElem hk2]
    have nd2 : ((T.take (pre.length + 1)).flatMap (·.2)).Nodup := by
      have h := ok.nd
      rw [← List.take_append_drop (pre.length + 1) T, List.flatMap_append] at h
      exact (List.nodup_append.1 h).1
    have ul : ((T.take (pre.length + 1)).flatMap (·.2)).length ≤ n := by
      refine nodup_lt nd2 fun x hx => ?_
      obtain ⟨q, hq, hx⟩ := List.mem_flatMap.1 hx
      exact ok.lt q (List.mem_of_mem_take hq) x hx
    rw [tk, List.flatMap_append] at nd2 ul
    simp only [List.flatMap_cons, List.flatMap_nil, List.append_nil] at nd2 ul
    have goalL : (((T.take (pre ++ [pre.length]).length).flatMap (·.2)).map nD) = ((T.take pre.length).flatMap (·.2) ++ (T[pre.length]).2).map nD := by
      rw [List.length_append, List.length_singleton, tk, List.flatMap_append]
      simp only [List.flatMap_cons, List.flatMap_nil, List.append_nil]
    rw [goalL]
    generalize hU : (T.take pre.length).flatMap (·.2) = used at nd2 ul ⊢
    generalize hN : T[pre.length] = q at *
    obtain ⟨pq, ms⟩ := q
    dsimp only at hp hm hlt hup hml nd2 ul ⊢
    have j0 : gIx (ndD (pq, ms)) (.int 0) = .ok (.dat (nD pq)) := gIx_t rfl
    have j1 : gIx (ndD (pq, ms)) (.int 1) = .ok (.dat (rowD (nl ms))) := gIx_t rfl
    have wh : f_law_whole [nD pq] = .ok (.dat (.bool true)) := whole_spec _
    have c1 : gCmp .Lt (nD pq) (.int 0) = retB false := by
      show gCmp .Lt (.int (pq : Int)) (.int 0) = _
      rw [gCmp_ii, show cmpI .Lt (pq : Int) 0 = false from decide_eq_false (p := (pq : Int) < 0) (by omega)]
    have c2 : gCmp .GtE (nD pq) (nD (pre.length + 1)) = retB false := by
      show gCmp .GtE (.int (pq : Int)) (.int ((pre.length + 1 : Nat) : Int)) = _
      rw [gCmp_ii, show cmpI .GtE (pq : Int) ((pre.length + 1 : Nat) : Int) = false from decide_eq_false (by omega)]
    have lm : gLen [rowD (nl ms)] = retI (ms.length : Int) := by rw [gLen_t, List.length_map, nl_len]
    have lz : decide ((ms.length : Int) = 0) = false := decide_eq_false (by have := List.length_pos_iff.2 hm; omega)
    have gl : gList [rowD (nl ms)] = .ok (.own (.list (ms.map nD))) := by rw [rowD_nl]; rfl
    have gs := sortedU_up hup
    have gn : gNe (.list (ms.map nD)) (.list (ms.map nD)) = retB false := gNe_refl (dn_nats ms) (by decide)
    refine stI [sd (.list (trL T)), sd (nD n), so (.list (used.map nD)), x3, sd (nD (pre.length + 1)), x5] rfl ?_
    refine xSeq (ρ' := [sd (.list (trL T)), sd (nD n), so (.list (used.map nD)), x3, sd (nD (pre.length + 1)), x5]) (ifN_f (by simp only [Dl.tOrF, Dl.tAndF, Dl.tNotF, Dl.tOf, Dl.eOp, Dl.eUn, Dl.eC, Dl.eVar, Dl.eCall, Dl.eMeth, Dl.eTup, Dl.eLst, Dl.eIf, Dl.eAndV, Dl.eOrV, Dl.eNotV, Dl.aCons, Dl.aNil, List.getElem?_cons_zero, List.getElem?_cons_succ, Dl.bindN_ok, Dl.Sl.d_dat, Dl.Sl.d_own, Dl.retI, Dl.retB, Dl.isB, if_true, if_false, Bool.false_eq_true, Dl.oOfN_ok, List.set_cons_zero, List.set_cons_succ, Dl.fixs, Dl.Env.fix, Dl.oSet, Dl.oRet, Dl.oMutS, Dl.mMut, ik, j0, wh, Bool.not_true, c1, c2]) rfl) ?_
    refine xSeq (ρ' := [sd (.list (trL T)), sd (nD n), so (.list (used.map nD)), x3, sd (nD (pre.length + 1)), x5]) (ifN_f (by simp only [Dl.tOrF, Dl.tAndF, Dl.tNotF, Dl.tOf, Dl.eOp, Dl.eUn, Dl.eC, Dl.eVar, Dl.eCall, Dl.eMeth, Dl.eTup, Dl.eLst, Dl.eIf, Dl.eAndV, Dl.eOrV, Dl.eNotV, Dl.aCons, Dl.aNil, List.getElem?_cons_zero, List.getElem?_cons_succ, Dl.bindN_ok, Dl.Sl.d_dat, Dl.Sl.d_own, Dl.retI, Dl.retB, Dl.isB, if_true, if_false, Bool.false_eq_true, Dl.oOfN_ok, List.set_cons_zero, List.set_cons_succ, Dl.fixs, Dl.Env.fix, Dl.oSet, Dl.oRet, Dl.oMutS, Dl.mMut, ik, j1, lm, gEq_ii, lz]) rfl) ?_
    refine xFor nD ms (fun pr ρ => ∃ x5, ρ = [sd (.list (trL T)), sd (nD n), so (.list ((used ++ pr).map nD)), x3, sd (nD (pre.length + 1)), x5]) (by simp only [Dl.tOrF, Dl.tAndF, Dl.tNotF, Dl.tOf, Dl.eOp, Dl.eUn, Dl.eC, Dl.eVar, Dl.eCall, Dl.eMeth, Dl.eTup, Dl.eLst, Dl.eIf, Dl.eAndV, Dl.eOrV, Dl.eNotV, Dl.aCons, Dl.aNil, List.getElem?_cons_zero, List.getElem?_cons_succ, Dl.bindN_ok, Dl.Sl.d_dat, Dl.Sl.d_own, Dl.retI, Dl.retB, Dl.isB, if_true, if_false, Bool.false_eq_true, Dl.oOfN_ok, List.set_cons_zero, List.set_cons_succ, Dl.fixs, Dl.Env.fix, Dl.oSet, Dl.oRet, Dl.oMutS, Dl.mMut, iOf, ik, j1, rowD_nl]; rfl) ⟨x5, by rw [List.append_nil]⟩ ?_ ?_
    · rintro pr m po ρ hms ⟨x5, rfl⟩
      have hmn : m < n := hlt m (by rw [hms]; simp)
      have hni : m ∉ used ++ pr := by
        intro z
        rw [hms, ← List.append_assoc] at nd2
        exact (List.nodup_append.1 nd2).2.2 m z m (List.mem_cons_self ..) rfl
      have hul : (used ++ pr).length + 1 ≤ 1000 := by
        have : (used ++ ms).length = (used ++ pr).length + (po.length + 1) := by rw [hms, ← List.append_assoc, List.length_append, List.length_cons]
        omega
      have wm : f_law_whole [nD m] = .ok (.dat (.bool true)) := whole_spec _
      have d1 : gCmp .Lt (nD m) (.int 0) = retB false := by
        show gCmp .Lt (.int (m : Int)) (.int 0) = _
        rw [gCmp_ii, show cmpI .Lt (m : Int) 0 = false from decide_eq_false (p := (m : Int) < 0) (by omega)]
      have d2 : gCmp .GtE (nD m) (nD n) = retB false := by
        show gCmp .GtE (.int (m : Int)) (.int (n : Int)) = _
        rw [gCmp_ii, show cmpI .GtE (m : Int) (n : Int) = false from decide_eq_false (by omega)]
      have d3 : gIn (nD m) (.list ((used ++ pr).map nD)) = retB false := (gIn_nats m (used ++ pr)).trans (congrArg retB (decide_eq_false hni))
      have ap : gAppend ((used ++ pr).map nD) [nD m] = some ((used ++ pr).map nD ++ [nD m], .none) := gAppend_1 (by rw [List.length_map]; omega)
      refine stI [sd (.list (trL T)), sd (nD n), so (.list ((used ++ pr).map nD)), x3, sd (nD (pre.length + 1)), sd (nD m)] rfl ?_
      refine xSeq (ρ' := [sd (.list (trL T)), sd (nD n), so (.list ((used ++ pr).map nD)), x3, sd (nD (pre.length + 1)), sd (nD m)]) (ifN_f ?_ rfl) (xEnd (ρ' := [sd (.list (trL T)), sd (nD n), so (.list ((used ++ pr).map nD ++ [nD m])), x3, sd (nD (pre.length + 1)), sd (nD m)]) ?_ ⟨_, by rw [← List.append_assoc, List.map_append (l₂ := [m])]; rfl⟩)
      · unfold tPub
        rw [show fixAll [sd (.list (trL T)), sd (nD n), so (.list ((used ++ pr).map nD)), x3, sd (nD (pre.length + 1)), sd (nD m)] = [sd (.list (trL T)), sd (nD n), sd (.list ((used ++ pr).map nD)), fixS x3, sd (nD (pre.length + 1)), sd (nD m)] from fixAll_map _]
        simp only [Dl.tOrF, Dl.tAndF, Dl.tNotF, Dl.tOf, Dl.eOp, Dl.eUn, Dl.eC, Dl.eVar, Dl.eCall, Dl.eMeth, Dl.eTup, Dl.eLst, Dl.eIf, Dl.eAndV, Dl.eOrV, Dl.eNotV, Dl.aCons, Dl.aNil, List.getElem?_cons_zero, List.getElem?_cons_succ, Dl.bindN_ok, Dl.Sl.d_dat, Dl.Sl.d_own, Dl.retI, Dl.retB, Dl.isB, if_true, if_false, Bool.false_eq_true, Dl.oOfN_ok, List.set_cons_zero, List.set_cons_succ, Dl.fixs, Dl.Env.fix, Dl.oSet, Dl.oRet, Dl.oMutS, Dl.mMut, wm, Bool.not_true, d1, d2, d3]
      · simp only [Dl.tOrF, Dl.tAndF, Dl.tNotF, Dl.tOf, Dl.eOp, Dl.eUn, Dl.eC, Dl.eVar, Dl.eCall, Dl.eMeth, Dl.eTup, Dl.eLst, Dl.eIf, Dl.eAndV, Dl.eOrV, Dl.eNotV, Dl.aCons, Dl.aNil, List.getElem?_cons_zero, List.getElem?_cons_succ, Dl.bindN_ok, Dl.Sl.d_dat, Dl.Sl.d_own, Dl.retI, Dl.retB, Dl.isB, if_true, if_false, Bool.false_eq_true, Dl.oOfN_ok, List.set_cons_zero, List.set_cons_succ, Dl.fixs, Dl.Env.fix, Dl.oSet, Dl.oRet, Dl.oMutS, Dl.mMut, ap]
    · rintro ρ' ⟨x5, rfl⟩
      exact xEnd (ρ' := [sd (.list (trL T)), sd (nD n), so (.list ((used ++ ms).map nD)), x3, sd (nD (pre.length + 1)), x5]) (ifN_f (by simp only [Dl.tOrF, Dl.tAndF, Dl.tNotF, Dl.tOf, Dl.eOp, Dl.eUn, Dl.eC, Dl.eVar, Dl.eCall, Dl.eMeth, Dl.eTup, Dl.eLst, Dl.eIf, Dl.eAndV, Dl.eOrV, Dl.eNotV, Dl.aCons, Dl.aNil, List.getElem?_cons_zero, List.getElem?_cons_succ, Dl.bindN_ok, Dl.Sl.d_dat, Dl.Sl.d_own, Dl.retI, Dl.retB, Dl.isB, if_true, if_false, Bool.false_eq_true, Dl.oOfN_ok, List.set_cons_zero, List.set_cons_succ, Dl.fixs, Dl.Env.fix, Dl.oSet, Dl.oRet, Dl.oMutS, Dl.mMut, ik, j1, gl, gs, gn]) rfl) ⟨_, _, rfl⟩
  · rintro ρ ⟨x4, x5, rfl⟩
    rfl
end Dl
/-! The rows of the tree laws; a tree is in form; who bears a mark; the last over. -/
namespace Dl
open PySem PySem.Spec PyProof.Rows L2
theorem rows_spec3 (ns : List Int) : ∃ (g : List Int) (left : List Nat) (L rows : List (List Int)), 1 ≤ g.length ∧ g.length ≤ 10 ∧ plainR g ∧ Grown g left L ∧ (∀ r ∈ rows, r ∈ L) ∧ rows.length ≤ 25 ∧ f_law_rows_v3 [scr ns, .int 0] = .ok (.dat (.tuple [rowD g, .list (rows.map rowD)])) := by
  have q0 := cell_spec ns 0 (by omega)
  have q1 := cell_spec ns (0 + 1) (by omega)
  have q2 := cell_spec ns (0 + 2) (by omega)
  have q3 := cell_spec ns (0 + 3) (by omega)
  generalize cellAt ns (Int.toNat 0) = c0 at q0
  generalize cellAt ns (Int.toNat (0 + 1)) = c1 at q1
  generalize cellAt ns (Int.toNat (0 + 2)) = c2 at q2
  generalize cellAt ns (Int.toNat (0 + 3)) = c3 at q3
  obtain ⟨g, g1, g2, g3⟩ := row_spec c1 (1 + c0 % 10) 2 (by omega) (by omega) (by omega) (by omega)
  obtain ⟨left, L, L1, G, L3⟩ := grown_spec g c2 g2 (by omega)
  obtain ⟨st, s1, s2, s3⟩ := row_spec c3 (c0 / 10 % 15) 27720 (by omega) (by omega) (by omega) (by omega)
  have hLne : 0 < L.length := List.length_pos_iff.mpr G.ne
  have hst : st.length ≤ 14 := by omega
  have m10 : gMod (.int c0) (.int 10) = retI (c0 % 10) := gMod_ii (by decide)
  have d10 : gDiv (.int c0) (.int 10) = retI (c0 / 10) := gDiv_ii (by decide) (by decide)
  have m15 : gMod (.int (c0 / 10)) (.int 15) = retI (c0 / 10 % 15) := gMod_ii (by decide)
  have d150 : gDiv (.int c0) (.int 150) = retI (c0 / 150) := gDiv_ii (by decide) (by decide)
  have m3 : gMod (.int (c0 / 150)) (.int 3) = retI (c0 / 150 % 3) := gMod_ii (by decide)
  have lenL : gLen [.list (L.map rowD)] = retI (L.length : Int) := by rw [gLen_l, List.length_map]
  have pick : ∀ x : Int, ∃ r, r ∈ L ∧ gIx (.list (L.map rowD)) (.int (x % (L.length : Int))) = .ok (.dat (rowD r)) := by
    intro x
    have y0 : 0 ≤ x % (L.length : Int) := Int.emod_nonneg _ (by omega)
    have y1 : x % (L.length : Int) < L.length := Int.emod_lt_of_pos _ (by omega)
    generalize x % (L.length : Int) = y at y0 y1
    have hr : L[y.toNat]? = some (L[y.toNat]'(by omega)) := List.getElem?_eq_getElem (by omega)
    exact ⟨_, List.mem_of_getElem? hr, gIx_l (by rw [atI_pos y0, List.getElem?_map, hr]; rfl)⟩
  obtain ⟨pk, hpk⟩ : ∃ pk : Int → List Int, ∀ x, pk x ∈ L ∧ gIx (.list (L.map rowD)) (.int (x % (L.length : Int))) = .ok (.dat (rowD (pk x))) := ⟨fun x => Classical.choose (pick x), fun x => Classical.choose_spec (pick x)⟩
  have mL : ∀ x : Int, gMod (.int x) (.int (L.length : Int)) = retI (x % (L.length : Int)) := fun x => gMod_ii (by omega)
  have lc := lcE (fi := iOf (eVar 6)) (own := [8]) (bd := bN 8) (fe := eOp gIx (eVar 5) (eOp gMod (eVar 8) (eCall gLen (aCons (eVar 5) aNil)))) (ρ := [sd (scr ns), sd (.int 0), sd (.int c0), sd (.int (1 + c0 % 10)), sd (rowD g), sd (.list (L.map rowD)), sd (.list (st.map PyData.int)), none, none]) PyData.int st (fun x => rowD (pk x)) rfl (by omega) fun x _ => by
    refine ⟨[sd (scr ns), sd (.int 0), sd (.int c0), sd (.int (1 + c0 % 10)), sd (rowD g), sd (.list (L.map rowD)), sd (.list (st.map PyData.int)), none, sd (.int x)], rfl, .dat (rowD (pk x)), ?_, rfl⟩
    simp only [Dl.tOrF, Dl.tAndF, Dl.tNotF, Dl.tOf, Dl.eOp, Dl.eUn, Dl.eC, Dl.eVar, Dl.eCall, Dl.eMeth, Dl.eTup, Dl.eLst, Dl.eIf, Dl.eAndV, Dl.eOrV, Dl.eNotV, Dl.aCons, Dl.aNil, List.getElem?_cons_zero, List.getElem?_cons_succ, Dl.bindN_ok, Dl.Sl.d_dat, Dl.Sl.d_own, Dl.retI, Dl.retB, Dl.isB, if_true, if_false, Bool.false_eq_true, Dl.oOfN_ok, List.set_cons_zero, List.set_cons_succ, Dl.fixs, Dl.Env.fix, Dl.oSet, Dl.oRet, Dl.oMutS, Dl.mMut, lenL, mL, (hpk x).2]
  have e1 : st.map (fun x => rowD (pk x)) = (st.map pk).map rowD := by rw [List.map_map]; rfl
  rw [e1] at lc
  by_cases h : c0 / 150 % 3 = 1
  · refine ⟨g, left, L, st.map pk ++ L, by omega, by omega, g2, G, fun r hr => ?_, by rw [List.length_append, List.length_map]; omega, ?_⟩
    · rcases List.mem_append.1 hr with hr | hr
      · obtain ⟨x, _, rfl⟩ := List.mem_map.1 hr
        exact (hpk x).1
      · exact hr
    · unfold f_law_rows_v3 o_law_rows_v3
      refine fnO_rt rfl ?_
      show oSeq _ _ [sd (scr ns), sd (.int 0), none, none, none, none, none, none, none] = _
      refine seqN (ρ' := [sd (scr ns), sd (.int 0), sd (.int c0), none, none, none, none, none, none]) (by simp only [Dl.tOrF, Dl.tAndF, Dl.tNotF, Dl.tOf, Dl.eOp, Dl.eUn, Dl.eC, Dl.eVar, Dl.eCall, Dl.eMeth, Dl.eTup, Dl.eLst, Dl.eIf, Dl.eAndV, Dl.eOrV, Dl.eNotV, Dl.aCons, Dl.aNil, List.getElem?_cons_zero, List.getElem?_cons_succ, Dl.bindN_ok, Dl.Sl.d_dat, Dl.Sl.d_own, Dl.retI, Dl.retB, Dl.isB, if_true, if_false, Bool.false_eq_true, Dl.oOfN_ok, List.set_cons_zero, List.set_cons_succ, Dl.fixs, Dl.Env.fix, Dl.oSet, Dl.oRet, Dl.oMutS, Dl.mMut, q0]) ?_
      refine seqN (ρ' := [sd (scr ns), sd (.int 0), sd (.int c0), sd (.int (1 + c0 % 10)), none, none, none, none, none]) (by simp only [Dl.tOrF, Dl.tAndF, Dl.tNotF, Dl.tOf, Dl.eOp, Dl.eUn, Dl.eC, Dl.eVar, Dl.eCall, Dl.eMeth, Dl.eTup, Dl.eLst, Dl.eIf, Dl.eAndV, Dl.eOrV, Dl.eNotV, Dl.aCons, Dl.aNil, List.getElem?_cons_zero, List.getElem?_cons_succ, Dl.bindN_ok, Dl.Sl.d_dat, Dl.Sl.d_own, Dl.retI, Dl.retB, Dl.isB, if_true, if_false, Bool.false_eq_true, Dl.oOfN_ok, List.set_cons_zero, List.set_cons_succ, Dl.fixs, Dl.Env.fix, Dl.oSet, Dl.oRet, Dl.oMutS, Dl.mMut, m10, gAdd_ii]) ?_
      refine seqN (ρ' := [sd (scr ns), sd (.int 0), sd (.int c0), sd (.int (1 + c0 % 10)), sd (rowD g), none, none, none, none]) (by simp only [Dl.tOrF, Dl.tAndF, Dl.tNotF, Dl.tOf, Dl.eOp, Dl.eUn, Dl.eC, Dl.eVar, Dl.eCall, Dl.eMeth, Dl.eTup, Dl.eLst, Dl.eIf, Dl.eAndV, Dl.eOrV, Dl.eNotV, Dl.aCons, Dl.aNil, List.getElem?_cons_zero, List.getElem?_cons_succ, Dl.bindN_ok, Dl.Sl.d_dat, Dl.Sl.d_own, Dl.retI, Dl.retB, Dl.isB, if_true, if_false, Bool.false_eq_true, Dl.oOfN_ok, List.set_cons_zero, List.set_cons_succ, Dl.fixs, Dl.Env.fix, Dl.oSet, Dl.oRet, Dl.oMutS, Dl.mMut, gAdd_ii, q1, g3, gTuple_l]; try rfl) ?_
      refine seqN (ρ' := [sd (scr ns), sd (.int 0), sd (.int c0), sd (.int (1 + c0 % 10)), sd (rowD g), so (.list (L.map rowD)), none, none, none]) (by simp only [Dl.tOrF, Dl.tAndF, Dl.tNotF, Dl.tOf, Dl.eOp, Dl.eUn, Dl.eC, Dl.eVar, Dl.eCall, Dl.eMeth, Dl.eTup, Dl.eLst, Dl.eIf, Dl.eAndV, Dl.eOrV, Dl.eNotV, Dl.aCons, Dl.aNil, List.getElem?_cons_zero, List.getElem?_cons_succ, Dl.bindN_ok, Dl.Sl.d_dat, Dl.Sl.d_own, Dl.retI, Dl.retB, Dl.isB, if_true, if_false, Bool.false_eq_true, Dl.oOfN_ok, List.set_cons_zero, List.set_cons_succ, Dl.fixs, Dl.Env.fix, Dl.oSet, Dl.oRet, Dl.oMutS, Dl.mMut, gAdd_ii, q2, L3]) ?_
      refine seqN (ρ' := [sd (scr ns), sd (.int 0), sd (.int c0), sd (.int (1 + c0 % 10)), sd (rowD g), so (.list (L.map rowD)), so (.list (st.map PyData.int)), none, none]) (by simp only [Dl.tOrF, Dl.tAndF, Dl.tNotF, Dl.tOf, Dl.eOp, Dl.eUn, Dl.eC, Dl.eVar, Dl.eCall, Dl.eMeth, Dl.eTup, Dl.eLst, Dl.eIf, Dl.eAndV, Dl.eOrV, Dl.eNotV, Dl.aCons, Dl.aNil, List.getElem?_cons_zero, List.getElem?_cons_succ, Dl.bindN_ok, Dl.Sl.d_dat, Dl.Sl.d_own, Dl.retI, Dl.retB, Dl.isB, if_true, if_false, Bool.false_eq_true, Dl.oOfN_ok, List.set_cons_zero, List.set_cons_succ, Dl.fixs, Dl.Env.fix, Dl.oSet, Dl.oRet, Dl.oMutS, Dl.mMut, gAdd_ii, q3, d10, m15, s3]) ?_
      refine seqN (ρ' := [sd (scr ns), sd (.int 0), sd (.int c0), sd (.int (1 + c0 % 10)), sd (rowD g), sd (.list (L.map rowD)), sd (.list (st.map PyData.int)), so (.list ((st.map pk).map rowD)), none]) (fixN ?_) ?_
      · show oSet 7 _ [sd (scr ns), sd (.int 0), sd (.int c0), sd (.int (1 + c0 % 10)), sd (rowD g), sd (.list (L.map rowD)), sd (.list (st.map PyData.int)), none, none] = _
        simp only [Dl.tOrF, Dl.tAndF, Dl.tNotF, Dl.tOf, Dl.eOp, Dl.eUn, Dl.eC, Dl.eVar, Dl.eCall, Dl.eMeth, Dl.eTup, Dl.eLst, Dl.eIf, Dl.eAndV, Dl.eOrV, Dl.eNotV, Dl.aCons, Dl.aNil, List.getElem?_cons_zero, List.getElem?_cons_succ, Dl.bindN_ok, Dl.Sl.d_dat, Dl.Sl.d_own, Dl.retI, Dl.retB, Dl.isB, if_true, if_false, Bool.false_eq_true, Dl.oOfN_ok, List.set_cons_zero, List.set_cons_succ, Dl.fixs, Dl.Env.fix, Dl.oSet, Dl.oRet, Dl.oMutS, Dl.mMut, lc]
      refine seqN (ρ' := [sd (scr ns), sd (.int 0), sd (.int c0), sd (.int (1 + c0 % 10)), sd (rowD g), sd (.list (L.map rowD)), sd (.list (st.map PyData.int)), so (.list ((st.map pk ++ L).map rowD)), none]) ?_ ?_
      · refine ifN_t (by simp only [Dl.tOrF, Dl.tAndF, Dl.tNotF, Dl.tOf, Dl.eOp, Dl.eUn, Dl.eC, Dl.eVar, Dl.eCall, Dl.eMeth, Dl.eTup, Dl.eLst, Dl.eIf, Dl.eAndV, Dl.eOrV, Dl.eNotV, Dl.aCons, Dl.aNil, List.getElem?_cons_zero, List.getElem?_cons_succ, Dl.bindN_ok, Dl.Sl.d_dat, Dl.Sl.d_own, Dl.retI, Dl.retB, Dl.isB, if_true, if_false, Bool.false_eq_true, Dl.oOfN_ok, List.set_cons_zero, List.set_cons_succ, Dl.fixs, Dl.Env.fix, Dl.oSet, Dl.oRet, Dl.oMutS, Dl.mMut, d150, m3, gEq_ii, decide_eq_true h]) (fixN ?_)
        have ad : gAdd (.list ((st.map pk).map rowD)) (.list (L.map rowD)) = .ok (.own (.list ((st.map pk ++ L).map rowD))) := by
          rw [List.map_append]
          exact gAdd_ll (by rw [List.length_map, List.length_map, List.length_map]; omega)
        simp only [Dl.tOrF, Dl.tAndF, Dl.tNotF, Dl.tOf, Dl.eOp, Dl.eUn, Dl.eC, Dl.eVar, Dl.eCall, Dl.eMeth, Dl.eTup, Dl.eLst, Dl.eIf, Dl.eAndV, Dl.eOrV, Dl.eNotV, Dl.aCons, Dl.aNil, List.getElem?_cons_zero, List.getElem?_cons_succ, Dl.bindN_ok, Dl.Sl.d_dat, Dl.Sl.d_own, Dl.retI, Dl.retB, Dl.isB, if_true, if_false, Bool.false_eq_true, Dl.oOfN_ok, List.set_cons_zero, List.set_cons_succ, Dl.fixs, Dl.Env.fix, Dl.oSet, Dl.oRet, Dl.oMutS, Dl.mMut, ad]
      refine fixN ?_
      simp only [Dl.tOrF, Dl.tAndF, Dl.tNotF, Dl.tOf, Dl.eOp, Dl.eUn, Dl.eC, Dl.eVar, Dl.eCall, Dl.eMeth, Dl.eTup, Dl.eLst, Dl.eIf, Dl.eAndV, Dl.eOrV, Dl.eNotV, Dl.aCons, Dl.aNil, List.getElem?_cons_zero, List.getElem?_cons_succ, Dl.bindN_ok, Dl.Sl.d_dat, Dl.Sl.d_own, Dl.retI, Dl.retB, Dl.isB, if_true, if_false, Bool.false_eq_true, Dl.oOfN_ok, List.set_cons_zero, List.set_cons_succ, Dl.fixs, Dl.Env.fix, Dl.oSet, Dl.oRet, Dl.oMutS, Dl.mMut, List.length_cons, List.length_nil, big, Nat.reduceAdd, Nat.reduceLeDiff, decide_true]
  · refine ⟨g, left, L, st.map pk, by omega, by omega, g2, G, fun r hr => ?_, by rw [List.length_map]; omega, ?_⟩
    · obtain ⟨x, _, rfl⟩ := List.mem_map.1 hr
      exact (hpk x).1
    · unfold f_law_rows_v3 o_law_rows_v3
      refine fnO_rt rfl ?_
      show oSeq _ _ [sd (scr ns), sd (.int 0), none, none, none, none, none, none, none] = _
      refine seqN (ρ' := [sd (scr ns), sd (.int 0), sd (.int c0), none, none, none, none, none, none]) (by simp only [Dl.tOrF, Dl.tAndF, Dl.tNotF, Dl.tOf, Dl.eOp, Dl.eUn, Dl.eC, Dl.eVar, Dl.eCall, Dl.eMeth, Dl.eTup, Dl.eLst, Dl.eIf, Dl.eAndV, Dl.eOrV, Dl.eNotV, Dl.aCons, Dl.aNil, List.getElem?_cons_zero, List.getElem?_cons_succ, Dl.bindN_ok, Dl.Sl.d_dat, Dl.Sl.d_own, Dl.retI, Dl.retB, Dl.isB, if_true, if_false, Bool.false_eq_true, Dl.oOfN_ok, List.set_cons_zero, List.set_cons_succ, Dl.fixs, Dl.Env.fix, Dl.oSet, Dl.oRet, Dl.oMutS, Dl.mMut, q0]) ?_
      refine seqN (ρ' := [sd (scr ns), sd (.int 0), sd (.int c0), sd (.int (1 + c0 % 10)), none, none, none, none, none]) (by simp only [Dl.tOrF, Dl.tAndF, Dl.tNotF, Dl.tOf, Dl.eOp, Dl.eUn, Dl.eC, Dl.eVar, Dl.eCall, Dl.eMeth, Dl.eTup, Dl.eLst, Dl.eIf, Dl.eAndV, Dl.eOrV, Dl.eNotV, Dl.aCons, Dl.aNil, List.getElem?_cons_zero, List.getElem?_cons_succ, Dl.bindN_ok, Dl.Sl.d_dat, Dl.Sl.d_own, Dl.retI, Dl.retB, Dl.isB, if_true, if_false, Bool.false_eq_true, Dl.oOfN_ok, List.set_cons_zero, List.set_cons_succ, Dl.fixs, Dl.Env.fix, Dl.oSet, Dl.oRet, Dl.oMutS, Dl.mMut, m10, gAdd_ii]) ?_
      refine seqN (ρ' := [sd (scr ns), sd (.int 0), sd (.int c0), sd (.int (1 + c0 % 10)), sd (rowD g), none, none, none, none]) (by simp only [Dl.tOrF, Dl.tAndF, Dl.tNotF, Dl.tOf, Dl.eOp, Dl.eUn, Dl.eC, Dl.eVar, Dl.eCall, Dl.eMeth, Dl.eTup, Dl.eLst, Dl.eIf, Dl.eAndV, Dl.eOrV, Dl.eNotV, Dl.aCons, Dl.aNil, List.getElem?_cons_zero, List.getElem?_cons_succ, Dl.bindN_ok, Dl.Sl.d_dat, Dl.Sl.d_own, Dl.retI, Dl.retB, Dl.isB, if_true, if_false, Bool.false_eq_true, Dl.oOfN_ok, List.set_cons_zero, List.set_cons_succ, Dl.fixs, Dl.Env.fix, Dl.oSet, Dl.oRet, Dl.oMutS, Dl.mMut, gAdd_ii, q1, g3, gTuple_l]; try rfl) ?_
      refine seqN (ρ' := [sd (scr ns), sd (.int 0), sd (.int c0), sd (.int (1 + c0 % 10)), sd (rowD g), so (.list (L.map rowD)), none, none, none]) (by simp only [Dl.tOrF, Dl.tAndF, Dl.tNotF, Dl.tOf, Dl.eOp, Dl.eUn, Dl.eC, Dl.eVar, Dl.eCall, Dl.eMeth, Dl.eTup, Dl.eLst, Dl.eIf, Dl.eAndV, Dl.eOrV, Dl.eNotV, Dl.aCons, Dl.aNil, List.getElem?_cons_zero, List.getElem?_cons_succ, Dl.bindN_ok, Dl.Sl.d_dat, Dl.Sl.d_own, Dl.retI, Dl.retB, Dl.isB, if_true, if_false, Bool.false_eq_true, Dl.oOfN_ok, List.set_cons_zero, List.set_cons_succ, Dl.fixs, Dl.Env.fix, Dl.oSet, Dl.oRet, Dl.oMutS, Dl.mMut, gAdd_ii, q2, L3]) ?_
      refine seqN (ρ' := [sd (scr ns), sd (.int 0), sd (.int c0), sd (.int (1 + c0 % 10)), sd (rowD g), so (.list (L.map rowD)), so (.list (st.map PyData.int)), none, none]) (by simp only [Dl.tOrF, Dl.tAndF, Dl.tNotF, Dl.tOf, Dl.eOp, Dl.eUn, Dl.eC, Dl.eVar, Dl.eCall, Dl.eMeth, Dl.eTup, Dl.eLst, Dl.eIf, Dl.eAndV, Dl.eOrV, Dl.eNotV, Dl.aCons, Dl.aNil, List.getElem?_cons_zero, List.getElem?_cons_succ, Dl.bindN_ok, Dl.Sl.d_dat, Dl.Sl.d_own, Dl.retI, Dl.retB, Dl.isB, if_true, if_false, Bool.false_eq_true, Dl.oOfN_ok, List.set_cons_zero, List.set_cons_succ, Dl.fixs, Dl.Env.fix, Dl.oSet, Dl.oRet, Dl.oMutS, Dl.mMut, gAdd_ii, q3, d10, m15, s3]) ?_
      refine seqN (ρ' := [sd (scr ns), sd (.int 0), sd (.int c0), sd (.int (1 + c0 % 10)), sd (rowD g), sd (.list (L.map rowD)), sd (.list (st.map PyData.int)), so (.list ((st.map pk).map rowD)), none]) (fixN ?_) ?_
      · show oSet 7 _ [sd (scr ns), sd (.int 0), sd (.int c0), sd (.int (1 + c0 % 10)), sd (rowD g), sd (.list (L.map rowD)), sd (.list (st.map PyData.int)), none, none] = _
        simp only [Dl.tOrF, Dl.tAndF, Dl.tNotF, Dl.tOf, Dl.eOp, Dl.eUn, Dl.eC, Dl.eVar, Dl.eCall, Dl.eMeth, Dl.eTup, Dl.eLst, Dl.eIf, Dl.eAndV, Dl.eOrV, Dl.eNotV, Dl.aCons, Dl.aNil, List.getElem?_cons_zero, List.getElem?_cons_succ, Dl.bindN_ok, Dl.Sl.d_dat, Dl.Sl.d_own, Dl.retI, Dl.retB, Dl.isB, if_true, if_false, Bool.false_eq_true, Dl.oOfN_ok, List.set_cons_zero, List.set_cons_succ, Dl.fixs, Dl.Env.fix, Dl.oSet, Dl.oRet, Dl.oMutS, Dl.mMut, lc]
      refine seqN (ρ' := [sd (scr ns), sd (.int 0), sd (.int c0), sd (.int (1 + c0 % 10)), sd (rowD g), sd (.list (L.map rowD)), sd (.list (st.map PyData.int)), so (.list ((st.map pk).map rowD)), none]) ?_ ?_
      · exact ifN_f (by simp only [Dl.tOrF, Dl.tAndF, Dl.tNotF, Dl.tOf, Dl.eOp, Dl.eUn, Dl.eC, Dl.eVar, Dl.eCall, Dl.eMeth, Dl.eTup, Dl.eLst, Dl.eIf, Dl.eAndV, Dl.eOrV, Dl.eNotV, Dl.aCons, Dl.aNil, List.getElem?_cons_zero, List.getElem?_cons_succ, Dl.bindN_ok, Dl.Sl.d_dat, Dl.Sl.d_own, Dl.retI, Dl.retB, Dl.isB, if_true, if_false, Bool.false_eq_true, Dl.oOfN_ok, List.set_cons_zero, List.set_cons_succ, Dl.fixs, Dl.Env.fix, Dl.oSet, Dl.oRet, Dl.oMutS, Dl.mMut, d150, m3, gEq_ii, decide_eq_false h]) rfl
      refine fixN ?_
      simp only [Dl.tOrF, Dl.tAndF, Dl.tNotF, Dl.tOf, Dl.eOp, Dl.eUn, Dl.eC, Dl.eVar, Dl.eCall, Dl.eMeth, Dl.eTup, Dl.eLst, Dl.eIf, Dl.eAndV, Dl.eOrV, Dl.eNotV, Dl.aCons, Dl.aNil, List.getElem?_cons_zero, List.getElem?_cons_succ, Dl.bindN_ok, Dl.Sl.d_dat, Dl.Sl.d_own, Dl.retI, Dl.retB, Dl.isB, if_true, if_false, Bool.false_eq_true, Dl.oOfN_ok, List.set_cons_zero, List.set_cons_succ, Dl.fixs, Dl.Env.fix, Dl.oSet, Dl.oRet, Dl.oMutS, Dl.mMut, List.length_cons, List.length_nil, big, Nat.reduceAdd, Nat.reduceLeDiff, decide_true]
theorem grown_barred {g : List Int} {left : List Nat} {L rows : List (List Int)} (G : Grown g left L) (hg : plainR g) (hn : g.length ≤ 1000) (hs : ∀ r ∈ rows, r ∈ L) (hl : rows.length ≤ 100000) : f_barred_at [.list (rows.map rowD), rowD g] = .ok (.dat .none) := by
  rw [barred_spec rows g hg hn (fun r hr => ⟨G.len r (hs r hr), G.plain r (hs r hr)⟩) hl]
  rw [List.find?_eq_none.mpr fun p hp => by
    obtain ⟨h1, h2⟩ := mem_pairsL hp
    rw [grown_free G hg hs p.1 p.2 h1 h2]
    decide]
/-! ### the tree of changes is in form -/
theorem nd_ix {α : Type} {l : List α} (nd : l.Nodup) {i j : Nat} (hi : i < l.length) (hj : j < l.length) (e : l[i] = l[j]) : i = j := by
  rcases Nat.lt_trichotomy i j with h | h | h
  · exact absurd e (List.pairwise_iff_getElem.1 nd i j hi hj h)
  · exact h
  · exact absurd e.symm (List.pairwise_iff_getElem.1 nd j i hj hi h)
theorem gw_mem {S : Grp} {k : Nat} (h : k < S.length) : (gw S k, gm S k) ∈ S := by
  have : S.getD k ([], []) = S[k] := by simp [h]
  unfold gw gm
  rw [this]
  exact List.getElem_mem ..
theorem ChgT.gm {U : List (List Int)} {g : List Int} {S : Grp} (C : ChgT U g S) {k : Nat} (h : k < S.length) : gw S k ≠ [] ∧ gm S k ≠ [] ∧ ∀ m, m ∈ gm S k ↔ m < g.length ∧ wN U g m = gw S k := by
  obtain ⟨h1, h2, h3⟩ := C.ent _ (gw_mem h)
  refine ⟨h1, h2, fun m => ?_⟩
  have h3 : Dl.gm S k = _ := h3
  rw [h3, List.mem_filter, List.mem_range, decide_eq_true_eq]
theorem ChgT.inj {U : List (List Int)} {g : List Int} {S : Grp} (C : ChgT U g S) {i j : Nat} (hi : i < S.length) (hj : j < S.length) (e : gw S i = gw S j) : i = j := by
  have nd := C.nd
  have h1 : (S.map (·.1))[i]'(by rw [List.length_map]; exact hi) = gw S i := by
    have : S.getD i ([], []) = S[i] := by simp [hi]
    unfold gw
    rw [List.getElem_map, this]
  have h2 : (S.map (·.1))[j]'(by rw [List.length_map]; exact hj) = gw S j := by
    have : S.getD j ([], []) = S[j] := by simp [hj]
    unfold gw
    rw [List.getElem_map, this]
  exact nd_ix nd _ _ (h1.trans (e.trans h2.symm))
theorem parN_lt (S : Grp) (k : Nat) : parN S k ≤ k := by
  unfold parN
  cases h : (List.range k).reverse.find? fun j => subB (gw S k) (gw S j) with
  | none => exact Nat.zero_le _
  | some j =>
    have := List.mem_range.1 (List.mem_reverse.1 (List.mem_of_find?_eq_some h))
    exact this
theorem treeT_get {S : Grp} {k : Nat} (h : k < (treeT S).length) : (treeT S)[k] = (parN S k, gm S k) := by
  have h2 : (treeT S)[k]? = some (parN S k, gm S k) := by
    unfold treeT at h ⊢
    rw [List.length_map, List.length_range] at h
    rw [List.getElem?_map, List.getElem?_range h]
    rfl
  exact (List.getElem?_eq_some_iff.1 h2).2
theorem treeT_mem {S : Grp} {q : Nat × List Nat} (h : q ∈ treeT S) : ∃ k, k < S.length ∧ q = (parN S k, gm S k) := by
  obtain ⟨k, hk, rfl⟩ := List.mem_map.1 h
  exact ⟨k, List.mem_range.1 hk, rfl⟩
theorem treeT_ok {U : List (List Int)} {g : List Int} {S : Grp} (C : ChgT U g S) : TrOk g.length (treeT S) := by
  have up : ∀ k, k < S.length → (gm S k).Pairwise fun a b => a < b := fun k hk => by
    have h3 : gm S k = _ := (C.ent _ (gw_mem hk)).2.2
    rw [h3]
    exact List.Pairwise.filter _ List.pairwise_lt_range
  refine ⟨fun k h => by rw [treeT_get]; exact parN_lt S k, fun q hq => ?_, fun q hq m hm => ?_, ?_, fun q hq => ?_⟩
  · obtain ⟨k, hk, rfl⟩ := treeT_mem hq
    exact (C.gm hk).2.1
  · obtain ⟨k, hk, rfl⟩ := treeT_mem hq
    exact (((C.gm hk).2.2 m).1 hm).1
  · unfold List.Nodup
    rw [List.pairwise_flatMap]
    refine ⟨fun q hq => ?_, ?_⟩
    · obtain ⟨k, hk, rfl⟩ := treeT_mem hq
      exact up_nodup (up k hk)
    · unfold treeT
      rw [List.pairwise_map]
      refine List.Pairwise.imp_of_mem (fun {i j} hi hj h x hx y hy e => ?_) (List.pairwise_lt_range (n := S.length))
      subst e
      have hi := List.mem_range.1 hi
      have hj := List.mem_range.1 hj
      have e1 := (((C.gm hi).2.2 x).1 hx).2
      have e2 := (((C.gm hj).2.2 x).1 hy).2
      have := C.inj hi hj (e1.symm.trans e2)
      omega
  · obtain ⟨k, hk, rfl⟩ := treeT_mem hq
    exact up k hk
/-! ### who bears a mark -/
theorem srtSet_len (rows : List (List Int)) : (srtSet rows).length ≤ rows.length := by
  have : ∀ l : List (List Int), (uniq l).length ≤ l.length := fun l => by
    induction l with
    | nil => exact Nat.le_refl _
    | cons a l ih =>
      show (if a ∈ l then uniq l else a :: uniq l).length ≤ _
      rw [List.length_cons]
      split
      · omega
      · rw [List.length_cons]; omega
  unfold srtSet
  rw [(List.mergeSort_perm _ _).length_eq]
  exact this rows
/-! ### the last over -/
theorem in_rows (r : List Int) (l : List (List Int)) : gIn (rowD r) (.list (l.map rowD)) = retB (decide (r ∈ l)) := (gIn_dn rowD 1 (fun a => dn_row a) (by decide) (fun a b h => row_inj.mp h) r l).trans (congrArg retB (decide_eq_decide.mpr Iff.rfl))
end Dl
/-! Trees in plain words: the way up, the marks of a node, its row. -/
namespace Dl
open PySem PySem.Spec PyProof.Rows L2
def pathF (T : Tr) : Nat → Nat → List Nat
  | 0, _ => []
  | _ + 1, 0 => []
  | f + 1, k + 1 => k :: pathF T f (T.getD k (0, [])).1
def path (T : Tr) (v : Nat) : List Nat := pathF T v v
theorem TrOk.parD {n : Nat} {T : Tr} (ok : TrOk n T) (k : Nat) : (T.getD k (0, [])).1 ≤ k := by
  by_cases h : k < T.length
  · rw [show T.getD k (0, []) = T[k] by simp [h]]
    exact ok.par k h
  · rw [show T.getD k (0, []) = (0, []) by simp [show T.length ≤ k by omega]]
    exact Nat.zero_le _
theorem pathF_mono {n : Nat} {T : Tr} (ok : TrOk n T) : ∀ (f v : Nat), v ≤ f → pathF T f v = pathF T v v := by
  intro f
  induction f using Nat.strongRecOn with
  | _ f ih =>
    intro v h
    cases f with
    | zero => rw [show v = 0 by omega]
    | succ f =>
      cases v with
      | zero => rfl
      | succ k =>
        have hp := ok.parD k
        rw [pathF, pathF]
        congr 1
        rw [ih f (by omega) _ (by omega)]
        by_cases hk : k = f
        · subst hk
          rw [ih k (by omega) _ hp]
        · rw [ih k (by omega) _ hp]
theorem path_succ {n : Nat} {T : Tr} (ok : TrOk n T) (k : Nat) : path T (k + 1) = k :: path T (T.getD k (0, [])).1 := by
  have hp := ok.parD k
  unfold path
  rw [pathF, pathF_mono ok k _ hp]
theorem path_lt {n : Nat} {T : Tr} (ok : TrOk n T) : ∀ (v : Nat), (∀ j ∈ path T v, j < v) ∧ (path T v).Pairwise fun a b => b < a := by
  intro v
  induction v using Nat.strongRecOn with
  | _ v ih =>
    cases v with
    | zero => exact ⟨(fun _ h => nomatch h), List.Pairwise.nil⟩
    | succ k =>
      have hp := ok.parD k
      obtain ⟨h1, h2⟩ := ih _ (show (T.getD k (0, [])).1 < k + 1 by omega)
      rw [path_succ ok]
      refine ⟨fun j hj => ?_, List.pairwise_cons.2 ⟨fun j hj => ?_, h2⟩⟩
      · rcases List.mem_cons.1 hj with rfl | hj
        · omega
        · have := h1 j hj; omega
      · have := h1 j hj; omega
/-- the marks changed between the founder and a node -/
def mkN (T : Tr) (v : Nat) : List Nat := (path T v).flatMap fun k => (T.getD k (0, [])).2
theorem mkN_zero (T : Tr) : mkN T 0 = [] := rfl
theorem mkN_succ {n : Nat} {T : Tr} (ok : TrOk n T) (k : Nat) : mkN T (k + 1) = (T.getD k (0, [])).2 ++ mkN T (T.getD k (0, [])).1 := by
  unfold mkN
  rw [path_succ ok, List.flatMap_cons]
theorem TrOk.disj {n : Nat} {T : Tr} (ok : TrOk n T) {i j : Nat} (hi : i < T.length) (hj : j < T.length) (hne : i ≠ j) {m : Nat} (h1 : m ∈ (T.getD i (0, [])).2) (h2 : m ∈ (T.getD j (0, [])).2) : False := by
  have nd := ok.nd
  unfold List.Nodup at nd
  rw [List.pairwise_flatMap] at nd
  have pw := nd.2
  rw [show T.getD i (0, []) = T[i] by simp [hi]] at h1
  rw [show T.getD j (0, []) = T[j] by simp [hj]] at h2
  rcases Nat.lt_or_gt_of_ne hne with h | h
  · exact List.pairwise_iff_getElem.1 pw i j hi hj h m h1 m h2 rfl
  · exact List.pairwise_iff_getElem.1 pw j i hj hi h m h2 m h1 rfl
theorem TrOk.mnd {n : Nat} {T : Tr} (ok : TrOk n T) (k : Nat) : (T.getD k (0, [])).2.Nodup := by
  by_cases h : k < T.length
  · rw [show T.getD k (0, []) = T[k] by simp [h]]
    exact up_nodup (ok.up _ (List.getElem_mem ..))
  · rw [show T.getD k (0, []) = (0, []) by simp [show T.length ≤ k by omega]]
    exact .nil
theorem TrOk.mlt {n : Nat} {T : Tr} (ok : TrOk n T) (k : Nat) : ∀ m ∈ (T.getD k (0, [])).2, m < n := by
  by_cases h : k < T.length
  · rw [show T.getD k (0, []) = T[k] by simp [h]]
    exact ok.lt _ (List.getElem_mem ..)
  · rw [show T.getD k (0, []) = (0, []) by simp [show T.length ≤ k by omega]]
    exact fun _ h => nomatch h
theorem mkN_nodup {n : Nat} {T : Tr} (ok : TrOk n T) {v : Nat} (hv : v ≤ T.length) : (mkN T v).Nodup := by
  obtain ⟨h1, h2⟩ := path_lt ok v
  unfold List.Nodup mkN
  rw [List.pairwise_flatMap]
  refine ⟨fun k _ => ok.mnd k, List.Pairwise.imp_of_mem (fun {a b} ha hb hab x hx y hy e => ?_) h2⟩
  subst e
  have := h1 a ha
  have := h1 b hb
  exact ok.disj (by omega) (by omega) (by omega) hx hy
theorem mkN_lt {n : Nat} {T : Tr} (ok : TrOk n T) (v : Nat) : ∀ m ∈ mkN T v, m < n := fun m hm => by
  obtain ⟨k, _, h⟩ := List.mem_flatMap.1 hm
  exact ok.mlt k m h
/-- a row with some marks turned over -/
def turnR (g : List Int) (ms : List Nat) : List Int := (List.range g.length).map fun i => if i ∈ ms then 1 - g.getD i 0 else g.getD i 0
theorem turnR_len (g : List Int) (ms : List Nat) : (turnR g ms).length = g.length := by unfold turnR; rw [List.length_map, List.length_range]
theorem turnR_get {g : List Int} {ms : List Nat} {i : Nat} (h : i < g.length) : (turnR g ms).getD i 0 = if i ∈ ms then 1 - g.getD i 0 else g.getD i 0 := by
  unfold turnR
  simp [h]
theorem ext_getD {a b : List Int} (hl : a.length = b.length) (h : ∀ i, i < a.length → a.getD i 0 = b.getD i 0) : a = b := by
  refine List.ext_getElem hl fun i h1 h2 => ?_
  have := h i h1
  rw [show a.getD i 0 = a[i] by simp [h1], show b.getD i 0 = b[i] by simp [h2]] at this
  exact this
theorem turnR_nil (g : List Int) : turnR g [] = g := ext_getD (turnR_len g []) fun i h => by
  rw [turnR_len] at h
  rw [turnR_get h, if_neg (by simp)]
theorem turnR_snoc {g : List Int} {ms : List Nat} {m : Nat} (hm : m < g.length) (hn : m ∉ ms) : (turnR g ms).set m (1 - (turnR g ms).getD m 0) = turnR g (ms ++ [m]) := by
  refine ext_getD (by rw [List.length_set, turnR_len, turnR_len]) fun i h => ?_
  rw [List.length_set, turnR_len] at h
  rw [turnR_get h]
  by_cases e : m = i
  · subst e
    have : ((turnR g ms).set m (1 - (turnR g ms).getD m 0)).getD m 0 = 1 - (turnR g ms).getD m 0 := by
      have : m < (turnR g ms).length := by rw [turnR_len]; exact h
      simp [this]
    rw [this, turnR_get h, if_neg hn, if_pos (by simp)]
  · have : ((turnR g ms).set m (1 - (turnR g ms).getD m 0)).getD i 0 = (turnR g ms).getD i 0 := by
      simp only [List.getD_eq_getElem?_getD]
      rw [List.getElem?_set_ne e]
    rw [this, turnR_get h]
    simp [show ¬ i = m from fun z => e z.symm]
theorem turnR_plain {g : List Int} {ms : List Nat} (h : plainR g) : plainR (turnR g ms) := by
  intro x hx
  obtain ⟨i, hi, rfl⟩ := List.mem_map.1 hx
  have hi := List.mem_range.1 hi
  have : g.getD i 0 ∈ g := by
    rw [show g.getD i 0 = g[i] by simp [hi]]
    exact List.getElem_mem ..
  have := h _ this
  split <;> omega
/-- the row of a node -/
def rowN (T : Tr) (g : List Int) (v : Nat) : List Int := turnR g (mkN T v)
/-! ### the walk up, turning the marks over -/
theorem while_t {t : Env → M Bool} {body : Env → O} {f : Nat} {ρ ρ' : Env} (h : t ρ = .ok true) (hb : body ρ = .nx ρ') : oWhile t body (f + 1) ρ = oWhile t body f ρ' := by
  rw [oWhile, h, oOf_ok, if_pos rfl, hb]
theorem while_f {t : Env → M Bool} {body : Env → O} {f : Nat} {ρ : Env} (h : t ρ = .ok false) : oWhile t body (f + 1) ρ = .nx ρ := by
  rw [oWhile, h, oOf_ok, if_neg (by decide)]
theorem ndD_get {T : Tr} {k : Nat} (h : k < T.length) : gIx (.list (trL T)) (nD (k + 1)) = .ok (.dat (ndD (T.getD k (0, [])))) := by
  rw [ix_tr h, show T.getD k (0, []) = T[k] by simp [h]]
theorem j0_nd (q : Nat × List Nat) : gIx (ndD q) (.int 0) = .ok (.dat (nD q.1)) := gIx_t rfl
theorem j1_nd (q : Nat × List Nat) : gIx (ndD q) (.int 1) = .ok (.dat (rowD (nl q.2))) := gIx_t rfl
theorem ne_nD (a b : Nat) : gNe (nD a) (nD b) = retB (!decide (a = b)) := by
  show gNe (.int (a : Int)) (.int (b : Int)) = _
  rw [gNe_ii]
  congr 3
  exact propext Int.ofNat_inj
theorem flip_loop {T : Tr} {g : List Int} (k : Nat) (hk : k < T.length) (ms : List Nat) (hlt : ∀ m ∈ (T.getD k (0, [])).2, m < g.length) (hnd : (ms ++ (T.getD k (0, [])).2).Nodup) (x4 : Option Sl) :
    ∃ ρ2, oForE (iOf (eOp gIx (eOp gIx (eVar 0) (eVar 2)) (eC (.int 1)))) (bN 4) (oSetIx 3 (ePub (eOp gSub (eC (.int 1)) (eOp gIx (eVar 3) (eVar 4)))) (ePub (eVar 4))) [sd (.list (trL T)), sd (rowD g), sd (nD (k + 1)), so (.list ((turnR g ms).map PyData.int)), x4] = .nx ρ2 ∧
      ∃ x4, ρ2 = [sd (.list (trL T)), sd (rowD g), sd (nD (k + 1)), so (.list ((turnR g (ms ++ (T.getD k (0, [])).2)).map PyData.int)), x4] := by
  have ik := ndD_get hk
  have j1 := j1_nd (T.getD k (0, []))
  refine forP nD (T.getD k (0, [])).2 (fun pr ρ => ∃ x4, ρ = [sd (.list (trL T)), sd (rowD g), sd (nD (k + 1)), so (.list ((turnR g (ms ++ pr)).map PyData.int)), x4]) (by simp only [Dl.tOrF, Dl.tAndF, Dl.tNotF, Dl.tOf, Dl.eOp, Dl.eUn, Dl.eC, Dl.eVar, Dl.eCall, Dl.eMeth, Dl.eTup, Dl.eLst, Dl.eIf, Dl.eAndV, Dl.eOrV, Dl.eNotV, Dl.aCons, Dl.aNil, List.getElem?_cons_zero, List.getElem?_cons_succ, Dl.bindN_ok, Dl.Sl.d_dat, Dl.Sl.d_own, Dl.retI, Dl.retB, Dl.isB, if_true, if_false, Bool.false_eq_true, Dl.oOfN_ok, List.set_cons_zero, List.set_cons_succ, Dl.fixs, Dl.Env.fix, Dl.oSet, Dl.oRet, Dl.oMutS, Dl.mMut, iOf, ik, j1, rowD_nl]; rfl) ⟨x4, by rw [List.append_nil]⟩ ?_
  rintro pr m po ρ hms ⟨x4, rfl⟩
  have hm := hlt m (by rw [hms]; simp)
  have hn : m ∉ ms ++ pr := by
    intro z
    rw [hms, ← List.append_assoc] at hnd
    exact (List.nodup_append.1 hnd).2.2 m z m (List.mem_cons_self ..) rfl
  have ix : gIx (.list ((turnR g (ms ++ pr)).map PyData.int)) (nD m) = .ok (.dat (.int ((turnR g (ms ++ pr)).getD m 0))) := ixI (by rw [turnR_len]; exact hm)
  have si := setI_ints (turnR g (ms ++ pr)) m (1 - (turnR g (ms ++ pr)).getD m 0) (by rw [turnR_len]; exact hm)
  rw [turnR_snoc hm hn, List.append_assoc] at si
  refine stI [sd (.list (trL T)), sd (rowD g), sd (nD (k + 1)), so (.list ((turnR g (ms ++ pr)).map PyData.int)), sd (nD m)] rfl ?_
  refine xEnd (ρ' := [sd (.list (trL T)), sd (rowD g), sd (nD (k + 1)), so (.list ((turnR g (ms ++ (pr ++ [m]))).map PyData.int)), sd (nD m)]) ?_ ⟨_, rfl⟩
  have fx : fixAll [sd (.list (trL T)), sd (rowD g), sd (nD (k + 1)), so (.list ((turnR g (ms ++ pr)).map PyData.int)), sd (nD m)] = [sd (.list (trL T)), sd (rowD g), sd (nD (k + 1)), sd (.list ((turnR g (ms ++ pr)).map PyData.int)), sd (nD m)] := rfl
  have e1 : ePub (eOp gSub (eC (.int 1)) (eOp gIx (eVar 3) (eVar 4))) [sd (.list (trL T)), sd (rowD g), sd (nD (k + 1)), so (.list ((turnR g (ms ++ pr)).map PyData.int)), sd (nD m)] = .ok (.dat (.int (1 - (turnR g (ms ++ pr)).getD m 0))) := by
    unfold ePub
    rw [fx]
    simp only [Dl.tOrF, Dl.tAndF, Dl.tNotF, Dl.tOf, Dl.eOp, Dl.eUn, Dl.eC, Dl.eVar, Dl.eCall, Dl.eMeth, Dl.eTup, Dl.eLst, Dl.eIf, Dl.eAndV, Dl.eOrV, Dl.eNotV, Dl.aCons, Dl.aNil, List.getElem?_cons_zero, List.getElem?_cons_succ, Dl.bindN_ok, Dl.Sl.d_dat, Dl.Sl.d_own, Dl.retI, Dl.retB, Dl.isB, if_true, if_false, Bool.false_eq_true, Dl.oOfN_ok, List.set_cons_zero, List.set_cons_succ, Dl.fixs, Dl.Env.fix, Dl.oSet, Dl.oRet, Dl.oMutS, Dl.mMut, ix, gSub_ii]
    rfl
  have e2 : ePub (eVar 4) [sd (.list (trL T)), sd (rowD g), sd (nD (k + 1)), so (.list ((turnR g (ms ++ pr)).map PyData.int)), sd (nD m)] = .ok (.dat (nD m)) := by
    unfold ePub
    rw [fx]
    rfl
  unfold oSetIx
  rw [e1, oOf_ok]
  show oOf (ePub (eVar 4) [sd (.list (trL T)), sd (rowD g), sd (nD (k + 1)), so (.list ((turnR g (ms ++ pr)).map PyData.int)), sd (nD m)]) _ = _
  rw [e2, oOf_ok]
  simp only [Sl.d_dat, si]
  rfl
theorem up_loop {n : Nat} {T : Tr} {g : List Int} (ok : TrOk n T) (hg : g.length = n) : ∀ (v f : Nat) (ms : List Nat) (x4 : Option Sl), v ≤ T.length → v < f → (ms ++ mkN T v).Nodup →
    ∃ x2 x4', oWhile (tOf (eOp gNe (eVar 2) (eC (.int 0)))) (oSeq (oForE (iOf (eOp gIx (eOp gIx (eVar 0) (eVar 2)) (eC (.int 1)))) (bN 4) (oSetIx 3 (ePub (eOp gSub (eC (.int 1)) (eOp gIx (eVar 3) (eVar 4)))) (ePub (eVar 4))))
    (oSet 2 (eOp gIx (eOp gIx (eVar 0) (eVar 2)) (eC (.int 0))))) f [sd (.list (trL T)), sd (rowD g), sd (nD v), so (.list ((turnR g ms).map PyData.int)), x4] = .nx [sd (.list (trL T)), sd (rowD g), x2, so (.list ((turnR g (ms ++ mkN T v)).map PyData.int)), x4'] := by
  intro v
  induction v using Nat.strongRecOn with
  | _ v ih =>
    intro f ms x4 hv hf hnd
    obtain ⟨f, rfl⟩ : ∃ f', f = f' + 1 := ⟨f - 1, by omega⟩
    have nz : gNe (nD v) (.int 0) = retB (!decide (v = 0)) := ne_nD v 0
    cases v with
    | zero =>
      refine ⟨sd (nD 0), x4, ?_⟩
      rw [mkN_zero, List.append_nil]
      exact while_f (by simp only [Dl.tOrF, Dl.tAndF, Dl.tNotF, Dl.tOf, Dl.eOp, Dl.eUn, Dl.eC, Dl.eVar, Dl.eCall, Dl.eMeth, Dl.eTup, Dl.eLst, Dl.eIf, Dl.eAndV, Dl.eOrV, Dl.eNotV, Dl.aCons, Dl.aNil, List.getElem?_cons_zero, List.getElem?_cons_succ, Dl.bindN_ok, Dl.Sl.d_dat, Dl.Sl.d_own, Dl.retI, Dl.retB, Dl.isB, if_true, if_false, Bool.false_eq_true, Dl.oOfN_ok, List.set_cons_zero, List.set_cons_succ, Dl.fixs, Dl.Env.fix, Dl.oSet, Dl.oRet, Dl.oMutS, Dl.mMut, nz]; rfl)
    | succ k =>
      have hk : k < T.length := by omega
      have hp := ok.parD k
      rw [mkN_succ ok, ← List.append_assoc] at hnd
      obtain ⟨ρ2, h1, x4a, rfl⟩ := flip_loop (T := T) (g := g) k hk ms (by rw [hg]; exact ok.mlt k) (List.nodup_append.1 hnd).1 x4
      have ik := ndD_get hk
      have j0 := j0_nd (T.getD k (0, []))
      obtain ⟨x2, x4', h2⟩ := ih _ (show (T.getD k (0, [])).1 < k + 1 by omega) f (ms ++ (T.getD k (0, [])).2) x4a (by omega) (by omega) hnd
      refine ⟨x2, x4', ?_⟩
      rw [mkN_succ ok, ← List.append_assoc]
      refine (while_t (by simp only [Dl.tOrF, Dl.tAndF, Dl.tNotF, Dl.tOf, Dl.eOp, Dl.eUn, Dl.eC, Dl.eVar, Dl.eCall, Dl.eMeth, Dl.eTup, Dl.eLst, Dl.eIf, Dl.eAndV, Dl.eOrV, Dl.eNotV, Dl.aCons, Dl.aNil, List.getElem?_cons_zero, List.getElem?_cons_succ, Dl.bindN_ok, Dl.Sl.d_dat, Dl.Sl.d_own, Dl.retI, Dl.retB, Dl.isB, if_true, if_false, Bool.false_eq_true, Dl.oOfN_ok, List.set_cons_zero, List.set_cons_succ, Dl.fixs, Dl.Env.fix, Dl.oSet, Dl.oRet, Dl.oMutS, Dl.mMut, nz]; rfl) ?_).trans h2
      exact seqN h1 (by simp only [Dl.tOrF, Dl.tAndF, Dl.tNotF, Dl.tOf, Dl.eOp, Dl.eUn, Dl.eC, Dl.eVar, Dl.eCall, Dl.eMeth, Dl.eTup, Dl.eLst, Dl.eIf, Dl.eAndV, Dl.eOrV, Dl.eNotV, Dl.aCons, Dl.aNil, List.getElem?_cons_zero, List.getElem?_cons_succ, Dl.bindN_ok, Dl.Sl.d_dat, Dl.Sl.d_own, Dl.retI, Dl.retB, Dl.isB, if_true, if_false, Bool.false_eq_true, Dl.oOfN_ok, List.set_cons_zero, List.set_cons_succ, Dl.fixs, Dl.Env.fix, Dl.oSet, Dl.oRet, Dl.oMutS, Dl.mMut, ik, j0])
theorem node_row_spec {n : Nat} {T : Tr} {g : List Int} (ok : TrOk n T) (hn : n ≤ 1000) (hg : g.length = n) {v : Nat} (hv : v ≤ T.length) : f_law_node_row [.list (trL T), rowD g, nD v] = .ok (.dat (rowD (rowN T g v))) := by
  have hT := ok.len
  obtain ⟨x2, x4, h⟩ := up_loop (g := g) ok hg v 100000 [] none hv (by omega) (by rw [List.nil_append]; exact mkN_nodup ok hv)
  rw [turnR_nil, List.nil_append] at h
  have gl : gList [rowD g] = .ok (.own (.list (g.map PyData.int))) := rfl
  unfold f_law_node_row o_law_node_row
  refine fnO_rt rfl ?_
  show oSeq _ _ [sd (.list (trL T)), sd (rowD g), sd (nD v), none, none] = _
  refine seqN (ρ' := [sd (.list (trL T)), sd (rowD g), sd (nD v), so (.list (g.map PyData.int)), none]) (by simp only [Dl.tOrF, Dl.tAndF, Dl.tNotF, Dl.tOf, Dl.eOp, Dl.eUn, Dl.eC, Dl.eVar, Dl.eCall, Dl.eMeth, Dl.eTup, Dl.eLst, Dl.eIf, Dl.eAndV, Dl.eOrV, Dl.eNotV, Dl.aCons, Dl.aNil, List.getElem?_cons_zero, List.getElem?_cons_succ, Dl.bindN_ok, Dl.Sl.d_dat, Dl.Sl.d_own, Dl.retI, Dl.retB, Dl.isB, if_true, if_false, Bool.false_eq_true, Dl.oOfN_ok, List.set_cons_zero, List.set_cons_succ, Dl.fixs, Dl.Env.fix, Dl.oSet, Dl.oRet, Dl.oMutS, Dl.mMut, gl]) ?_
  refine seqN h (fixN ?_)
  show oRet _ [sd (.list (trL T)), sd (rowD g), x2, sd (.list ((turnR g (mkN T v)).map PyData.int)), x4] = _
  simp only [Dl.tOrF, Dl.tAndF, Dl.tNotF, Dl.tOf, Dl.eOp, Dl.eUn, Dl.eC, Dl.eVar, Dl.eCall, Dl.eMeth, Dl.eTup, Dl.eLst, Dl.eIf, Dl.eAndV, Dl.eOrV, Dl.eNotV, Dl.aCons, Dl.aNil, List.getElem?_cons_zero, List.getElem?_cons_succ, Dl.bindN_ok, Dl.Sl.d_dat, Dl.Sl.d_own, Dl.retI, Dl.retB, Dl.isB, if_true, if_false, Bool.false_eq_true, Dl.oOfN_ok, List.set_cons_zero, List.set_cons_succ, Dl.fixs, Dl.Env.fix, Dl.oSet, Dl.oRet, Dl.oMutS, Dl.mMut, gTuple_l]
  rfl
end Dl
/-! The tree of rows that are borne: each row is at a node. -/
/-! Looks at a tree: row_at, node_of, depth_of, unlike. -/
namespace Dl
open PySem PySem.Spec PyProof.Rows L2
theorem ext_step (a b : List Nat) (h : a.length + b.length ≤ 1000) : gExtendT (a.map nD) [rowD (nl b)] = some ((a ++ b).map nD, .none) := by
  rw [rowD_nl, List.map_append]
  show (if big ((a.map nD).length + (b.map nD).length) = true then _ else _) = _
  rw [if_pos (big_lt (by rw [List.length_map, List.length_map]; omega))]
theorem path_len {n : Nat} {T : Tr} (ok : TrOk n T) (v : Nat) : (path T v).length ≤ v := by
  obtain ⟨h1, h2⟩ := path_lt ok v
  exact nodup_lt (h2.imp fun h => Nat.ne_of_gt h) h1
theorem up_row {n : Nat} {T : Tr} {g : List Int} (ok : TrOk n T) (hn : n ≤ 500) : ∀ (v f : Nat) (ms : List Nat), v ≤ T.length → v < f → (ms ++ mkN T v).length ≤ n →
    ∃ x2, oWhile (tOf (eOp gNe (eVar 2) (eC (.int 0)))) (oSeq (oMutS (mMut 3 gExtendT (aCons (eOp gIx (eOp gIx (eVar 0) (eVar 2)) (eC (.int 1))) aNil)))
    (oSet 2 (eOp gIx (eOp gIx (eVar 0) (eVar 2)) (eC (.int 0))))) f [sd (.list (trL T)), sd (rowD g), sd (nD v), so (.list (ms.map nD)), none, none] = .nx [sd (.list (trL T)), sd (rowD g), x2, so (.list ((ms ++ mkN T v).map nD)), none, none] := by
  intro v
  induction v using Nat.strongRecOn with
  | _ v ih =>
    intro f ms hv hf hnd
    obtain ⟨f, rfl⟩ : ∃ f', f = f' + 1 := ⟨f - 1, by omega⟩
    have nz : gNe (nD v) (.int 0) = retB (!decide (v = 0)) := ne_nD v 0
    cases v with
    | zero =>
      refine ⟨sd (nD 0), ?_⟩
      rw [mkN_zero, List.append_nil]
      exact while_f (by simp only [Dl.tOrF, Dl.tAndF, Dl.tNotF, Dl.tOf, Dl.eOp, Dl.eUn, Dl.eC, Dl.eVar, Dl.eCall, Dl.eMeth, Dl.eTup, Dl.eLst, Dl.eIf, Dl.eAndV, Dl.eOrV, Dl.eNotV, Dl.aCons, Dl.aNil, List.getElem?_cons_zero, List.getElem?_cons_succ, Dl.bindN_ok, Dl.Sl.d_dat, Dl.Sl.d_own, Dl.retI, Dl.retB, Dl.isB, if_true, if_false, Bool.false_eq_true, Dl.oOfN_ok, List.set_cons_zero, List.set_cons_succ, Dl.fixs, Dl.Env.fix, Dl.oSet, Dl.oRet, Dl.oMutS, Dl.mMut, nz]; rfl)
    | succ k =>
      have hk : k < T.length := by omega
      have hp := ok.parD k
      rw [mkN_succ ok, ← List.append_assoc] at hnd
      have ik := ndD_get hk
      have j0 := j0_nd (T.getD k (0, []))
      have j1 := j1_nd (T.getD k (0, []))
      rw [List.length_append] at hnd
      have ex := ext_step ms (T.getD k (0, [])).2 (by rw [List.length_append] at hnd; omega)
      obtain ⟨x2, h2⟩ := ih _ (show (T.getD k (0, [])).1 < k + 1 by omega) f (ms ++ (T.getD k (0, [])).2) (by omega) (by omega) (by rw [List.length_append]; exact hnd)
      refine ⟨x2, ?_⟩
      rw [mkN_succ ok, ← List.append_assoc]
      refine (while_t (by simp only [Dl.tOrF, Dl.tAndF, Dl.tNotF, Dl.tOf, Dl.eOp, Dl.eUn, Dl.eC, Dl.eVar, Dl.eCall, Dl.eMeth, Dl.eTup, Dl.eLst, Dl.eIf, Dl.eAndV, Dl.eOrV, Dl.eNotV, Dl.aCons, Dl.aNil, List.getElem?_cons_zero, List.getElem?_cons_succ, Dl.bindN_ok, Dl.Sl.d_dat, Dl.Sl.d_own, Dl.retI, Dl.retB, Dl.isB, if_true, if_false, Bool.false_eq_true, Dl.oOfN_ok, List.set_cons_zero, List.set_cons_succ, Dl.fixs, Dl.Env.fix, Dl.oSet, Dl.oRet, Dl.oMutS, Dl.mMut, nz]; rfl) ?_).trans h2
      refine seqN (ρ' := [sd (.list (trL T)), sd (rowD g), sd (nD (k + 1)), so (.list ((ms ++ (T.getD k (0, [])).2).map nD)), none, none]) ?_ (by simp only [Dl.tOrF, Dl.tAndF, Dl.tNotF, Dl.tOf, Dl.eOp, Dl.eUn, Dl.eC, Dl.eVar, Dl.eCall, Dl.eMeth, Dl.eTup, Dl.eLst, Dl.eIf, Dl.eAndV, Dl.eOrV, Dl.eNotV, Dl.aCons, Dl.aNil, List.getElem?_cons_zero, List.getElem?_cons_succ, Dl.bindN_ok, Dl.Sl.d_dat, Dl.Sl.d_own, Dl.retI, Dl.retB, Dl.isB, if_true, if_false, Bool.false_eq_true, Dl.oOfN_ok, List.set_cons_zero, List.set_cons_succ, Dl.fixs, Dl.Env.fix, Dl.oSet, Dl.oRet, Dl.oMutS, Dl.mMut, ik, j0])
      unfold oMutS mMut
      simp only [Dl.tOrF, Dl.tAndF, Dl.tNotF, Dl.tOf, Dl.eOp, Dl.eUn, Dl.eC, Dl.eVar, Dl.eCall, Dl.eMeth, Dl.eTup, Dl.eLst, Dl.eIf, Dl.eAndV, Dl.eOrV, Dl.eNotV, Dl.aCons, Dl.aNil, List.getElem?_cons_zero, List.getElem?_cons_succ, Dl.bindN_ok, Dl.Sl.d_dat, Dl.Sl.d_own, Dl.retI, Dl.retB, Dl.isB, if_true, if_false, Bool.false_eq_true, Dl.oOfN_ok, List.set_cons_zero, List.set_cons_succ, Dl.fixs, Dl.Env.fix, Dl.oSet, Dl.oRet, Dl.oMutS, Dl.mMut, ik, j1, ex]
theorem enum_row (r : List Int) : enumOf [rowD r] = .ok ((List.range r.length).map fun i => PyData.tuple [nD i, .int (r.getD i 0)]) := by
  unfold rowD
  rw [enumOf_t, enumD_row]
theorem row_at_spec {n : Nat} {T : Tr} {g : List Int} (ok : TrOk n T) (hn : n ≤ 500) (hg : g.length = n) {v : Nat} (hv : v ≤ T.length) : f_row_at [.list (trL T), rowD g, nD v] = .ok (.dat (rowD (rowN T g v))) := by
  have hT := ok.len
  have ml := nodup_lt (mkN_nodup ok hv) (mkN_lt ok v)
  obtain ⟨x2, h⟩ := up_row (g := g) ok hn v 100000 [] hv (by omega) (by rw [List.nil_append]; exact ml)
  rw [List.nil_append] at h
  unfold f_row_at o_row_at
  refine fnO_rt rfl ?_
  show oSeq _ _ [sd (.list (trL T)), sd (rowD g), sd (nD v), none, none, none] = _
  refine seqN (ρ' := [sd (.list (trL T)), sd (rowD g), sd (nD v), so (.list (([] : List Nat).map nD)), none, none]) (by simp only [Dl.tOrF, Dl.tAndF, Dl.tNotF, Dl.tOf, Dl.eOp, Dl.eUn, Dl.eC, Dl.eVar, Dl.eCall, Dl.eMeth, Dl.eTup, Dl.eLst, Dl.eIf, Dl.eAndV, Dl.eOrV, Dl.eNotV, Dl.aCons, Dl.aNil, List.getElem?_cons_zero, List.getElem?_cons_succ, Dl.bindN_ok, Dl.Sl.d_dat, Dl.Sl.d_own, Dl.retI, Dl.retB, Dl.isB, if_true, if_false, Bool.false_eq_true, Dl.oOfN_ok, List.set_cons_zero, List.set_cons_succ, Dl.fixs, Dl.Env.fix, Dl.oSet, Dl.oRet, Dl.oMutS, Dl.mMut, gLen_l]; rfl) ?_
  refine seqN h (fixN ?_)
  show oRet _ [sd (.list (trL T)), sd (rowD g), x2, sd (.list ((mkN T v).map nD)), none, none] = _
  have en := enum_row g
  have lc := lcE (fi := iAr (aCons (eVar 1) aNil) enumOf) (own := [4, 5]) (bd := bTup 2 (bCons (bN 4) (bCons (bN 5) bNil))) (fe := eIf (tOf (eOp gIn (eVar 4) (eVar 3))) (eOp gSub (eC (.int 1)) (eVar 5)) (eVar 5)) (ρ := [sd (.list (trL T)), sd (rowD g), x2, sd (.list ((mkN T v).map nD)), none, none])
    (fun i => PyData.tuple [nD i, .int (g.getD i 0)]) (List.range g.length) (fun i => .int (if i ∈ mkN T v then 1 - g.getD i 0 else g.getD i 0)) (by simp only [Dl.tOrF, Dl.tAndF, Dl.tNotF, Dl.tOf, Dl.eOp, Dl.eUn, Dl.eC, Dl.eVar, Dl.eCall, Dl.eMeth, Dl.eTup, Dl.eLst, Dl.eIf, Dl.eAndV, Dl.eOrV, Dl.eNotV, Dl.aCons, Dl.aNil, List.getElem?_cons_zero, List.getElem?_cons_succ, Dl.bindN_ok, Dl.Sl.d_dat, Dl.Sl.d_own, Dl.retI, Dl.retB, Dl.isB, if_true, if_false, Bool.false_eq_true, Dl.oOfN_ok, List.set_cons_zero, List.set_cons_succ, Dl.fixs, Dl.Env.fix, Dl.oSet, Dl.oRet, Dl.oMutS, Dl.mMut, iAr, en]) (by rw [List.length_range]; omega) fun i _ => by
      have gi := gIn_nats i (mkN T v)
      refine ⟨[sd (.list (trL T)), sd (rowD g), x2, sd (.list ((mkN T v).map nD)), sd (nD i), sd (.int (g.getD i 0))], rfl, ?_⟩
      by_cases hm : i ∈ mkN T v
      · refine ⟨.dat (.int (1 - g.getD i 0)), ?_, by rw [if_pos hm]; rfl⟩
        unfold eIf
        simp only [Dl.tOrF, Dl.tAndF, Dl.tNotF, Dl.tOf, Dl.eOp, Dl.eUn, Dl.eC, Dl.eVar, Dl.eCall, Dl.eMeth, Dl.eTup, Dl.eLst, Dl.eIf, Dl.eAndV, Dl.eOrV, Dl.eNotV, Dl.aCons, Dl.aNil, List.getElem?_cons_zero, List.getElem?_cons_succ, Dl.bindN_ok, Dl.Sl.d_dat, Dl.Sl.d_own, Dl.retI, Dl.retB, Dl.isB, if_true, if_false, Bool.false_eq_true, Dl.oOfN_ok, List.set_cons_zero, List.set_cons_succ, Dl.fixs, Dl.Env.fix, Dl.oSet, Dl.oRet, Dl.oMutS, Dl.mMut, gi, hm, gSub_ii]
        rfl
      · refine ⟨.dat (.int (g.getD i 0)), ?_, by rw [if_neg hm]; rfl⟩
        unfold eIf
        simp only [Dl.tOrF, Dl.tAndF, Dl.tNotF, Dl.tOf, Dl.eOp, Dl.eUn, Dl.eC, Dl.eVar, Dl.eCall, Dl.eMeth, Dl.eTup, Dl.eLst, Dl.eIf, Dl.eAndV, Dl.eOrV, Dl.eNotV, Dl.aCons, Dl.aNil, List.getElem?_cons_zero, List.getElem?_cons_succ, Dl.bindN_ok, Dl.Sl.d_dat, Dl.Sl.d_own, Dl.retI, Dl.retB, Dl.isB, if_true, if_false, Bool.false_eq_true, Dl.oOfN_ok, List.set_cons_zero, List.set_cons_succ, Dl.fixs, Dl.Env.fix, Dl.oSet, Dl.oRet, Dl.oMutS, Dl.mMut, gi, hm]
        rfl
  unfold oRet
  simp only [eCall, aCons, aNil, lc, bindN_ok, Sl.d_own, gTuple_l, oOfN_ok]
  unfold rowN turnR rowD
  rw [List.map_map]
  rfl
/-- the first number with a row -/
def firstN (T : Tr) (g r : List Int) : PyData := match (List.range (T.length + 1)).find? fun v => decide (rowN T g v = r) with
  | some v => nD v
  | none => .none
theorem rng_len (T : Tr) (h : T.length ≤ 500) : rng1Of [.int ((T.length : Int) + 1)] = .ok ((List.range (T.length + 1)).map nD) := by
  rw [show ((T.length : Int) + 1) = ((T.length + 1 : Nat) : Int) by omega, rng1_i (by omega) (by omega), Int.toNat_natCast, rng_map]
theorem find_loop {n : Nat} {T : Tr} {g r : List Int} (ok : TrOk n T) (hn : n ≤ 500) (hg : g.length = n) : ∀ (vs : List Nat) (x3 : Option Sl), (∀ v ∈ vs, v ≤ T.length) →
    (∃ v, vs.find? (fun v => decide (rowN T g v = r)) = some v ∧ oFor (bN 3) (oIf (tOf (eOp gEq (eCall f_row_at (aCons (eVar 0) (aCons (eVar 1) (aCons (eVar 3) aNil)))) (eVar 2))) (oRet (eVar 3)) oNx) (vs.map nD) [sd (.list (trL T)), sd (rowD g), sd (rowD r), x3] = .rt (.dat (nD v))) ∨
    (vs.find? (fun v => decide (rowN T g v = r)) = none ∧ ∃ x3', oFor (bN 3) (oIf (tOf (eOp gEq (eCall f_row_at (aCons (eVar 0) (aCons (eVar 1) (aCons (eVar 3) aNil)))) (eVar 2))) (oRet (eVar 3)) oNx) (vs.map nD) [sd (.list (trL T)), sd (rowD g), sd (rowD r), x3] = .nx [sd (.list (trL T)), sd (rowD g), sd (rowD r), x3'])
  | [], x3, _ => .inr ⟨rfl, x3, by rw [List.map_nil, oFor_nil]⟩
  | v :: vs, x3, h => by
    have hv := h v (List.mem_cons_self ..)
    have ra := row_at_spec (g := g) ok hn hg hv
    have eq : gEq (rowD (rowN T g v)) (rowD r) = retB (decide (rowN T g v = r)) := gEq_row
    have ih := find_loop (g := g) (r := r) ok hn hg vs (sd (nD v)) fun w hw => h w (List.mem_cons_of_mem _ hw)
    by_cases e : rowN T g v = r
    · refine .inl ⟨v, by rw [List.find?_cons_of_pos (by simpa using e)], ?_⟩
      rw [List.map_cons, oFor_cons]
      have : (oIf (tOf (eOp gEq (eCall f_row_at (aCons (eVar 0) (aCons (eVar 1) (aCons (eVar 3) aNil)))) (eVar 2))) (oRet (eVar 3)) oNx) [sd (.list (trL T)), sd (rowD g), sd (rowD r), sd (nD v)] = .rt (.dat (nD v)) := ifN_t (by simp only [Dl.tOrF, Dl.tAndF, Dl.tNotF, Dl.tOf, Dl.eOp, Dl.eUn, Dl.eC, Dl.eVar, Dl.eCall, Dl.eMeth, Dl.eTup, Dl.eLst, Dl.eIf, Dl.eAndV, Dl.eOrV, Dl.eNotV, Dl.aCons, Dl.aNil, List.getElem?_cons_zero, List.getElem?_cons_succ, Dl.bindN_ok, Dl.Sl.d_dat, Dl.Sl.d_own, Dl.retI, Dl.retB, Dl.isB, if_true, if_false, Bool.false_eq_true, Dl.oOfN_ok, List.set_cons_zero, List.set_cons_succ, Dl.fixs, Dl.Env.fix, Dl.oSet, Dl.oRet, Dl.oMutS, Dl.mMut, ra, eq, decide_eq_true e]) rfl
      show oOf (.ok [sd (.list (trL T)), sd (rowD g), sd (rowD r), sd (nD v)]) _ = _
      rw [oOf_ok, this]
    · have hs : (oIf (tOf (eOp gEq (eCall f_row_at (aCons (eVar 0) (aCons (eVar 1) (aCons (eVar 3) aNil)))) (eVar 2))) (oRet (eVar 3)) oNx) [sd (.list (trL T)), sd (rowD g), sd (rowD r), sd (nD v)] = .nx [sd (.list (trL T)), sd (rowD g), sd (rowD r), sd (nD v)] := ifN_f (by simp only [Dl.tOrF, Dl.tAndF, Dl.tNotF, Dl.tOf, Dl.eOp, Dl.eUn, Dl.eC, Dl.eVar, Dl.eCall, Dl.eMeth, Dl.eTup, Dl.eLst, Dl.eIf, Dl.eAndV, Dl.eOrV, Dl.eNotV, Dl.aCons, Dl.aNil, List.getElem?_cons_zero, List.getElem?_cons_succ, Dl.bindN_ok, Dl.Sl.d_dat, Dl.Sl.d_own, Dl.retI, Dl.retB, Dl.isB, if_true, if_false, Bool.false_eq_true, Dl.oOfN_ok, List.set_cons_zero, List.set_cons_succ, Dl.fixs, Dl.Env.fix, Dl.oSet, Dl.oRet, Dl.oMutS, Dl.mMut, ra, eq, e]; rfl) rfl
      have st : oFor (bN 3) (oIf (tOf (eOp gEq (eCall f_row_at (aCons (eVar 0) (aCons (eVar 1) (aCons (eVar 3) aNil)))) (eVar 2))) (oRet (eVar 3)) oNx) ((v :: vs).map nD) [sd (.list (trL T)), sd (rowD g), sd (rowD r), x3] = oFor (bN 3) (oIf (tOf (eOp gEq (eCall f_row_at (aCons (eVar 0) (aCons (eVar 1) (aCons (eVar 3) aNil)))) (eVar 2))) (oRet (eVar 3)) oNx) (vs.map nD) [sd (.list (trL T)), sd (rowD g), sd (rowD r), sd (nD v)] := by
        rw [List.map_cons, oFor_cons]
        show oOf (.ok [sd (.list (trL T)), sd (rowD g), sd (rowD r), sd (nD v)]) _ = _
        rw [oOf_ok, hs]
      rw [st, List.find?_cons_of_neg (by simpa using e)]
      exact ih
theorem node_of_spec {n : Nat} {T : Tr} {g : List Int} (ok : TrOk n T) (hn : n ≤ 500) (hg : g.length = n) (r : List Int) : f_node_of [.list (trL T), rowD g, rowD r] = .ok (.dat (firstN T g r)) := by
  have hT := ok.len
  have ln := len_tr T
  have rg := rng_len T (by omega)
  unfold f_node_of o_node_of
  refine fnO_rt rfl ?_
  show oSeq _ _ [sd (.list (trL T)), sd (rowD g), sd (rowD r), none] = _
  have hfi : iAr (aCons (eCall gLen (aCons (eVar 0) aNil)) aNil) rng1Of [sd (.list (trL T)), sd (rowD g), sd (rowD r), none] = .ok ((List.range (T.length + 1)).map nD) := by simp only [Dl.tOrF, Dl.tAndF, Dl.tNotF, Dl.tOf, Dl.eOp, Dl.eUn, Dl.eC, Dl.eVar, Dl.eCall, Dl.eMeth, Dl.eTup, Dl.eLst, Dl.eIf, Dl.eAndV, Dl.eOrV, Dl.eNotV, Dl.aCons, Dl.aNil, List.getElem?_cons_zero, List.getElem?_cons_succ, Dl.bindN_ok, Dl.Sl.d_dat, Dl.Sl.d_own, Dl.retI, Dl.retB, Dl.isB, if_true, if_false, Bool.false_eq_true, Dl.oOfN_ok, List.set_cons_zero, List.set_cons_succ, Dl.fixs, Dl.Env.fix, Dl.oSet, Dl.oRet, Dl.oMutS, Dl.mMut, iAr, ln, rg]
  rcases find_loop (g := g) (r := r) ok hn hg (List.range (T.length + 1)) none (fun v hv => by have := List.mem_range.1 hv; omega) with ⟨v, e, k⟩ | ⟨e, x3, k⟩
  · refine seqR ((forN hfi k).trans ?_)
    unfold firstN
    rw [e]
  · refine seqN (forN hfi k) ?_
    unfold firstN
    rw [e]
    rfl
theorem up_deep {n : Nat} {T : Tr} (ok : TrOk n T) (hn : n ≤ 500) : ∀ (v f c : Nat), v ≤ T.length → v < f →
    ∃ x1, oWhile (tOf (eOp gNe (eVar 1) (eC (.int 0)))) (oSeq (oAug 2 (eCall gLen (aCons (eOp gIx (eOp gIx (eVar 0) (eVar 1)) (eC (.int 1))) aNil)))
    (oSet 1 (eOp gIx (eOp gIx (eVar 0) (eVar 1)) (eC (.int 0))))) f [sd (.list (trL T)), sd (nD v), sd (nD c)] = .nx [sd (.list (trL T)), x1, sd (nD (c + (mkN T v).length))] := by
  intro v
  induction v using Nat.strongRecOn with
  | _ v ih =>
    intro f c hv hf
    obtain ⟨f, rfl⟩ : ∃ f', f = f' + 1 := ⟨f - 1, by omega⟩
    have nz : gNe (nD v) (.int 0) = retB (!decide (v = 0)) := ne_nD v 0
    cases v with
    | zero =>
      refine ⟨sd (nD 0), ?_⟩
      rw [mkN_zero]
      exact while_f (by simp only [Dl.tOrF, Dl.tAndF, Dl.tNotF, Dl.tOf, Dl.eOp, Dl.eUn, Dl.eC, Dl.eVar, Dl.eCall, Dl.eMeth, Dl.eTup, Dl.eLst, Dl.eIf, Dl.eAndV, Dl.eOrV, Dl.eNotV, Dl.aCons, Dl.aNil, List.getElem?_cons_zero, List.getElem?_cons_succ, Dl.bindN_ok, Dl.Sl.d_dat, Dl.Sl.d_own, Dl.retI, Dl.retB, Dl.isB, if_true, if_false, Bool.false_eq_true, Dl.oOfN_ok, List.set_cons_zero, List.set_cons_succ, Dl.fixs, Dl.Env.fix, Dl.oSet, Dl.oRet, Dl.oMutS, Dl.mMut, nz]; rfl)
    | succ k =>
      have hk : k < T.length := by omega
      have hp := ok.parD k
      have ik := ndD_get hk
      have j0 := j0_nd (T.getD k (0, []))
      have j1 := j1_nd (T.getD k (0, []))
      have gl : gLen [rowD (nl (T.getD k (0, [])).2)] = retI (((T.getD k (0, [])).2.length : Nat) : Int) := by rw [rowD_nl, gLen_t, List.length_map]
      obtain ⟨x1, h2⟩ := ih _ (show (T.getD k (0, [])).1 < k + 1 by omega) f (c + (T.getD k (0, [])).2.length) (by omega) (by omega)
      refine ⟨x1, ?_⟩
      rw [mkN_succ ok, List.length_append, ← Nat.add_assoc]
      refine (while_t (by simp only [Dl.tOrF, Dl.tAndF, Dl.tNotF, Dl.tOf, Dl.eOp, Dl.eUn, Dl.eC, Dl.eVar, Dl.eCall, Dl.eMeth, Dl.eTup, Dl.eLst, Dl.eIf, Dl.eAndV, Dl.eOrV, Dl.eNotV, Dl.aCons, Dl.aNil, List.getElem?_cons_zero, List.getElem?_cons_succ, Dl.bindN_ok, Dl.Sl.d_dat, Dl.Sl.d_own, Dl.retI, Dl.retB, Dl.isB, if_true, if_false, Bool.false_eq_true, Dl.oOfN_ok, List.set_cons_zero, List.set_cons_succ, Dl.fixs, Dl.Env.fix, Dl.oSet, Dl.oRet, Dl.oMutS, Dl.mMut, nz]; rfl) ?_).trans h2
      refine seqN (ρ' := [sd (.list (trL T)), sd (nD (k + 1)), sd (nD (c + (T.getD k (0, [])).2.length))]) ?_ (by simp only [Dl.tOrF, Dl.tAndF, Dl.tNotF, Dl.tOf, Dl.eOp, Dl.eUn, Dl.eC, Dl.eVar, Dl.eCall, Dl.eMeth, Dl.eTup, Dl.eLst, Dl.eIf, Dl.eAndV, Dl.eOrV, Dl.eNotV, Dl.aCons, Dl.aNil, List.getElem?_cons_zero, List.getElem?_cons_succ, Dl.bindN_ok, Dl.Sl.d_dat, Dl.Sl.d_own, Dl.retI, Dl.retB, Dl.isB, if_true, if_false, Bool.false_eq_true, Dl.oOfN_ok, List.set_cons_zero, List.set_cons_succ, Dl.fixs, Dl.Env.fix, Dl.oSet, Dl.oRet, Dl.oMutS, Dl.mMut, ik, j0])
      unfold oAug
      simp only [Dl.tOrF, Dl.tAndF, Dl.tNotF, Dl.tOf, Dl.eOp, Dl.eUn, Dl.eC, Dl.eVar, Dl.eCall, Dl.eMeth, Dl.eTup, Dl.eLst, Dl.eIf, Dl.eAndV, Dl.eOrV, Dl.eNotV, Dl.aCons, Dl.aNil, List.getElem?_cons_zero, List.getElem?_cons_succ, Dl.bindN_ok, Dl.Sl.d_dat, Dl.Sl.d_own, Dl.retI, Dl.retB, Dl.isB, if_true, if_false, Bool.false_eq_true, Dl.oOfN_ok, List.set_cons_zero, List.set_cons_succ, Dl.fixs, Dl.Env.fix, Dl.oSet, Dl.oRet, Dl.oMutS, Dl.mMut, ik, j1, gl]
      rfl
theorem depth_spec {n : Nat} {T : Tr} (ok : TrOk n T) (hn : n ≤ 500) {v : Nat} (hv : v ≤ T.length) : f_depth_of [.list (trL T), nD v] = .ok (.dat (nD (mkN T v).length)) := by
  have hT := ok.len
  obtain ⟨x1, h⟩ := up_deep ok hn v 100000 0 hv (by omega)
  rw [Nat.zero_add] at h
  unfold f_depth_of o_depth_of
  refine fnO_rt rfl ?_
  show oSeq _ _ [sd (.list (trL T)), sd (nD v), none] = _
  refine seqN (ρ' := [sd (.list (trL T)), sd (nD v), sd (nD 0)]) rfl (seqN h rfl)
/-- at how many marks two rows are unlike -/
def unlR (a b : List Int) : Nat := ((List.range a.length).filter fun i => !decide (a.getD i 0 = b.getD i 0)).length
theorem law_unlike_spec {a b : List Int} (h : a.length ≤ 500) (hb : b.length = a.length) : f_law_unlike [rowD a, rowD b] = .ok (.dat (nD (unlR a b))) := by
  unfold f_law_unlike o_law_unlike
  refine fnO_rt rfl ?_
  show oRet _ [sd (rowD a), sd (rowD b), none] = _
  have hgl : gLen [rowD a] = retI (a.length : Int) := by unfold rowD; rw [gLen_t, List.length_map]
  have rg : rng1Of [.int (a.length : Int)] = .ok ((List.range a.length).map nD) := by rw [rng1_i (by omega) (by omega), Int.toNat_natCast, rng_map]
  have lc := lcG (fi := iAr (aCons (eCall gLen (aCons (eVar 0) aNil)) aNil) rng1Of) (own := [2]) (bd := bN 2) (tt := tOf (eOp gNe (eOp gIx (eVar 0) (eVar 2)) (eOp gIx (eVar 1) (eVar 2)))) (fe := eVar 2) (ρ := [sd (rowD a), sd (rowD b), none]) nD (List.range a.length) (fun i => !decide (a.getD i 0 = b.getD i 0)) nD (by simp only [Dl.tOrF, Dl.tAndF, Dl.tNotF, Dl.tOf, Dl.eOp, Dl.eUn, Dl.eC, Dl.eVar, Dl.eCall, Dl.eMeth, Dl.eTup, Dl.eLst, Dl.eIf, Dl.eAndV, Dl.eOrV, Dl.eNotV, Dl.aCons, Dl.aNil, List.getElem?_cons_zero, List.getElem?_cons_succ, Dl.bindN_ok, Dl.Sl.d_dat, Dl.Sl.d_own, Dl.retI, Dl.retB, Dl.isB, if_true, if_false, Bool.false_eq_true, Dl.oOfN_ok, List.set_cons_zero, List.set_cons_succ, Dl.fixs, Dl.Env.fix, Dl.oSet, Dl.oRet, Dl.oMutS, Dl.mMut, iAr, hgl, rg]) (by rw [List.length_range]; omega) fun i hi => by
    have hi := List.mem_range.1 hi
    have e1 := ixR (r := a) (i := i) hi
    have e2 := ixR (r := b) (i := i) (by omega)
    refine ⟨[sd (rowD a), sd (rowD b), sd (nD i)], rfl, ?_, fun _ => ⟨_, rfl, rfl⟩⟩
    simp only [Dl.tOrF, Dl.tAndF, Dl.tNotF, Dl.tOf, Dl.eOp, Dl.eUn, Dl.eC, Dl.eVar, Dl.eCall, Dl.eMeth, Dl.eTup, Dl.eLst, Dl.eIf, Dl.eAndV, Dl.eOrV, Dl.eNotV, Dl.aCons, Dl.aNil, List.getElem?_cons_zero, List.getElem?_cons_succ, Dl.bindN_ok, Dl.Sl.d_dat, Dl.Sl.d_own, Dl.retI, Dl.retB, Dl.isB, if_true, if_false, Bool.false_eq_true, Dl.oOfN_ok, List.set_cons_zero, List.set_cons_succ, Dl.fixs, Dl.Env.fix, Dl.oSet, Dl.oRet, Dl.oMutS, Dl.mMut, e1, e2, gNe_ii]
  unfold oRet
  simp only [eCall, aCons, aNil, lc, bindN_ok, Sl.d_own, gLen_l, List.length_map]
  rfl
end Dl
/-! Between two nodes: the marks on the way. -/
namespace Dl
open PySem PySem.Spec PyProof.Rows L2
/-! ### plain -/
def chainT (T : Tr) (v : Nat) : List Nat := (path T v).map (· + 1) ++ [0]
theorem chain_zero (T : Tr) : chainT T 0 = [0] := rfl
theorem chain_succ {n : Nat} {T : Tr} (ok : TrOk n T) (k : Nat) : chainT T (k + 1) = (k + 1) :: chainT T (T.getD k (0, [])).1 := by
  unfold chainT
  rw [path_succ ok, List.map_cons, List.cons_append]
theorem zero_chain (T : Tr) (v : Nat) : 0 ∈ chainT T v := by
  unfold chainT
  simp
theorem mem_chain {T : Tr} {v k : Nat} : k + 1 ∈ chainT T v ↔ k ∈ path T v := by
  unfold chainT
  rw [List.mem_append, List.mem_map]
  constructor
  · rintro (⟨a, h, e⟩ | h)
    · rw [← Nat.succ.inj e]; exact h
    · simp at h
  · exact fun h => .inl ⟨k, h, rfl⟩
theorem self_chain {n : Nat} {T : Tr} (ok : TrOk n T) (v : Nat) : v ∈ chainT T v := by
  cases v with
  | zero => exact zero_chain T 0
  | succ k => rw [chain_succ ok]; exact List.mem_cons_self ..
theorem chain_path {n : Nat} {T : Tr} (ok : TrOk n T) : ∀ (v : Nat) {c : Nat}, c ∈ chainT T v → ∀ x ∈ path T c, x ∈ path T v := by
  intro v
  induction v using Nat.strongRecOn with
  | _ v ih =>
    intro c hc x hx
    cases v with
    | zero =>
      rw [chain_zero, List.mem_singleton] at hc
      subst hc
      exact hx
    | succ k =>
      have hp := ok.parD k
      rw [chain_succ ok] at hc
      rcases List.mem_cons.1 hc with rfl | hc
      · exact hx
      · rw [path_succ ok]
        exact List.mem_cons_of_mem _ (ih _ (by omega) hc x hx)
theorem path_marks {n : Nat} {T : Tr} (ok : TrOk n T) {v k m : Nat} (hv : v ≤ T.length) (hk : k < T.length) (h1 : m ∈ (T.getD k (0, [])).2) (h2 : m ∈ mkN T v) : k ∈ path T v := by
  obtain ⟨j, hj, h3⟩ := List.mem_flatMap.1 h2
  have hl := (path_lt ok v).1 j hj
  by_cases e : k = j
  · rw [e]; exact hj
  · exact (ok.disj hk (by omega) e h1 h3).elim
theorem mk_common {n : Nat} {T : Tr} (ok : TrOk n T) {a b c : Nat} (ha : a ≤ T.length) (hb : b ≤ T.length) (hc1 : c ∈ chainT T a) (hc2 : c ∈ chainT T b) (hc : ∀ x ∈ path T b, x + 1 ∈ chainT T a → x ∈ path T c) (m : Nat) : m ∈ mkN T c ↔ m ∈ mkN T a ∧ m ∈ mkN T b := by
  constructor
  · intro h
    obtain ⟨k, hk, h3⟩ := List.mem_flatMap.1 h
    exact ⟨List.mem_flatMap.2 ⟨k, chain_path ok a hc1 k hk, h3⟩, List.mem_flatMap.2 ⟨k, chain_path ok b hc2 k hk, h3⟩⟩
  · rintro ⟨h1, h2⟩
    obtain ⟨k, hk, h3⟩ := List.mem_flatMap.1 h1
    have hl := (path_lt ok a).1 k hk
    have hkb := path_marks ok hb (by omega) h3 h2
    exact List.mem_flatMap.2 ⟨k, hc k hkb (mem_chain.2 hk), h3⟩
theorem cnt_in {l : List Nat} {n : Nat} (nd : l.Nodup) (h : ∀ x ∈ l, x < n) : ((List.range n).filter fun x => decide (x ∈ l)).length = l.length := by
  refine List.Perm.length_eq ((List.perm_ext_iff_of_nodup (List.nodup_range.sublist List.filter_sublist) nd).2 fun a => ?_)
  rw [List.mem_filter, List.mem_range, decide_eq_true_eq]
  exact ⟨fun z => z.2, fun z => ⟨h a z, z⟩⟩
theorem cnt_xor (p q : Nat → Bool) : ∀ l : List Nat, (l.filter fun i => p i != q i).length + 2 * (l.filter fun i => p i && q i).length = (l.filter p).length + (l.filter q).length
  | [] => rfl
  | a :: l => by
    have ih := cnt_xor p q l
    simp only [List.filter_cons]
    cases hp : p a <;> cases hq : q a <;> simp <;> omega
theorem unl_turn {g : List Int} {A B C : List Nat} (hA : A.Nodup) (hB : B.Nodup) (hC : C.Nodup) (lA : ∀ x ∈ A, x < g.length) (lB : ∀ x ∈ B, x < g.length) (lC : ∀ x ∈ C, x < g.length) (h : ∀ m, m ∈ C ↔ m ∈ A ∧ m ∈ B) : unlR (turnR g A) (turnR g B) + 2 * C.length = A.length + B.length := by
  have e1 : unlR (turnR g A) (turnR g B) = ((List.range g.length).filter fun i => decide (i ∈ A) != decide (i ∈ B)).length := by
    unfold unlR
    rw [turnR_len]
    congr 1
    refine List.filter_congr fun i hi => ?_
    have hi := List.mem_range.1 hi
    rw [turnR_get hi, turnR_get hi]
    by_cases a : i ∈ A <;> by_cases b : i ∈ B <;> simp [a, b] <;> omega
  have e2 : ((List.range g.length).filter fun i => decide (i ∈ A) && decide (i ∈ B)).length = C.length := by
    rw [← cnt_in hC lC]
    congr 1
    refine List.filter_congr fun i _ => ?_
    rw [← Bool.decide_and]
    exact decide_eq_decide.2 (h i).symm
  have := cnt_xor (fun i => decide (i ∈ A)) (fun i => decide (i ∈ B)) (List.range g.length)
  rw [cnt_in hA lA, cnt_in hB lB] at this
  rw [e1, ← e2]
  exact this
theorem unl_founder {n : Nat} {T : Tr} {g : List Int} (ok : TrOk n T) (hg : g.length = n) {v : Nat} (hv : v ≤ T.length) : unlR g (rowN T g v) = (mkN T v).length := by
  have := unl_turn (g := g) (A := []) (B := mkN T v) (C := []) List.nodup_nil (mkN_nodup ok hv) List.nodup_nil (fun _ h => nomatch h) (fun x h => by rw [hg]; exact mkN_lt ok v x h) (fun _ h => nomatch h) (fun m => by simp)
  rw [turnR_nil] at this
  unfold rowN
  simp at this
  exact this
theorem row_inj_node {n : Nat} {T : Tr} {g : List Int} (ok : TrOk n T) (hg : g.length = n) {v w : Nat} (hv : v ≤ T.length) (hw : w ≤ T.length) (e : rowN T g v = rowN T g w) : v = w := by
  have key : ∀ {a b : Nat}, a ≤ T.length → b ≤ T.length → rowN T g a = rowN T g b → a ≤ b := by
    intro a b ha hb e
    cases a with
    | zero => exact Nat.zero_le _
    | succ k =>
      have hk : k < T.length := by omega
      have hne := ok.ne _ (List.getElem_mem hk)
      obtain ⟨m, hm⟩ := List.exists_mem_of_ne_nil _ hne
      have hm2 : m ∈ (T.getD k (0, [])).2 := by rw [show T.getD k (0, []) = T[k] by simp [hk]]; exact hm
      have hmn : m < g.length := by rw [hg]; exact ok.mlt k m hm2
      have h1 : m ∈ mkN T (k + 1) := by rw [mkN_succ ok]; exact List.mem_append_left _ hm2
      have h2 : (turnR g (mkN T (k + 1))).getD m 0 = (turnR g (mkN T b)).getD m 0 := congrArg (fun r : List Int => r.getD m 0) e
      rw [turnR_get hmn, turnR_get hmn, if_pos h1] at h2
      by_cases h3 : m ∈ mkN T b
      · exact (path_lt ok b).1 k (path_marks ok hb hk hm2 h3)
      · rw [if_neg h3] at h2
        omega
  exact Nat.le_antisymm (key hv hw e) (key hw hv e.symm)
theorem first_row {n : Nat} {T : Tr} {g : List Int} (ok : TrOk n T) (hg : g.length = n) {v : Nat} (hv : v ≤ T.length) : firstN T g (rowN T g v) = nD v := by
  unfold firstN
  have : (List.range (T.length + 1)).find? (fun w => decide (rowN T g w = rowN T g v)) = some v := by
    cases h : (List.range (T.length + 1)).find? (fun w => decide (rowN T g w = rowN T g v)) with
    | none =>
      have := List.find?_eq_none.1 h v (List.mem_range.2 (by omega))
      simp at this
    | some w =>
      have h1 := List.find?_some h
      have h2 := List.mem_range.1 (List.mem_of_find?_eq_some h)
      rw [row_inj_node ok hg (by omega) hv (of_decide_eq_true h1)]
  rw [this]
/-! ### the walk -/
def dB (vs : List Nat) : List (PyData × PyData) := vs.map fun v => (nD v, .bool true)
theorem isDK_dB (vs : List Nat) : isDK (dB vs) = true := by
  cases vs with
  | nil => rfl
  | cons p es => rfl
theorem isKK_n (a b : Nat) (d : PyData) : isKK (.inl (b : Int)) (nD a, d) = decide (a = b) := by
  refine (isKK_ent (.inl (a : Int)) (.inl (b : Int)) d).trans (decide_eq_decide.2 ⟨fun h => ?_, fun h => by rw [h]⟩)
  exact Int.ofNat_inj.1 (Sum.inl.inj h)
theorem getK_dB (v : Nat) : ∀ vs : List Nat, (getK (dB vs) (.inl (v : Int))).isSome = decide (v ∈ vs)
  | [] => rfl
  | w :: vs => by
    have ih := getK_dB v vs
    unfold getK dB at ih ⊢
    rw [List.map_cons, List.find?_cons, isKK_n]
    by_cases h : w = v
    · subst h
      simp
    · rw [decide_eq_false h]
      simp only
      rw [ih]
      refine decide_eq_decide.2 ⟨fun z => List.mem_cons_of_mem _ z, fun z => ?_⟩
      rcases List.mem_cons.1 z with z | z
      · exact (h z.symm).elim
      · exact z
theorem putD_dB (vs : List Nat) (v : Nat) (h : v ∉ vs) : putD (dB vs) (.inl (v : Int)) (.bool true) = dB (vs ++ [v]) := by
  unfold putD
  rw [if_neg]
  · unfold dB
    rw [List.map_append]
    rfl
  · rw [List.any_eq_true]
    rintro ⟨q, hq, e⟩
    unfold dB at hq
    obtain ⟨p, hp, rfl⟩ := List.mem_map.mp hq
    rw [isKK_n] at e
    exact h (by rw [← of_decide_eq_true e]; exact hp)
theorem chain_nodup {n : Nat} {T : Tr} (ok : TrOk n T) (v : Nat) : (chainT T v).Nodup := by
  obtain ⟨_, h2⟩ := path_lt ok v
  unfold chainT List.Nodup
  rw [List.pairwise_append]
  refine ⟨List.pairwise_map.2 (h2.imp fun h => by omega), List.pairwise_singleton _ _, fun a ha b hb => ?_⟩
  obtain ⟨x, _, rfl⟩ := List.mem_map.1 ha
  rw [List.mem_singleton] at hb
  omega
theorem chain_len {n : Nat} {T : Tr} (ok : TrOk n T) (v : Nat) : (chainT T v).length ≤ v + 1 := by
  have := path_len ok v
  unfold chainT
  rw [List.length_append, List.length_map, List.length_singleton]
  omega
theorem up_above {n : Nat} {T : Tr} (ok : TrOk n T) (x1 x2 : Option Sl) : ∀ (v f : Nat) (vs : List Nat), v ≤ T.length → v + 1 < f → (vs ++ chainT T v).Nodup → (vs ++ chainT T v).length ≤ 10000 →
    oWhile (tOf (eOp gNotN (eVar 4) (eC .none))) (oSeq (oPutK 3 (eC (.bool true)) (eVar 4)) (oSet 4 (eOp gIx (eOp gIx (eVar 0) (eVar 4)) (eC (.int 0))))) f [sd (.list (trL T)), x1, x2, so (.dict (dB vs)), sd (nD v)] = .nx [sd (.list (trL T)), x1, x2, so (.dict (dB (vs ++ chainT T v))), sd .none] := by
  intro v
  induction v using Nat.strongRecOn with
  | _ v ih =>
    intro f vs hv hf hnd hl
    obtain ⟨f, rfl⟩ : ∃ f', f = f' + 1 := ⟨f - 1, by omega⟩
    have nn : gNotN (nD v) .none = retB true := rfl
    have hin : v ∉ vs := fun z => (List.nodup_append.1 hnd).2.2 v z v (self_chain ok v) rfl
    have hdk := isDK_dB vs
    have hkv : keyV (nD v) = some (.inl (v : Int)) := rfl
    rw [List.length_append] at hl
    have hbg : big ((dB vs).length + 1) = true := big_lt (by unfold dB; rw [List.length_map]; omega)
    have hput := putD_dB vs v hin
    have put : oPutK 3 (eC (.bool true)) (eVar 4) [sd (.list (trL T)), x1, x2, so (.dict (dB vs)), sd (nD v)] = .nx [sd (.list (trL T)), x1, x2, so (.dict (dB (vs ++ [v]))), sd (nD v)] := by
      unfold oPutK
      simp only [Dl.tOrF, Dl.tAndF, Dl.tNotF, Dl.tOf, Dl.eOp, Dl.eUn, Dl.eC, Dl.eVar, Dl.eCall, Dl.eMeth, Dl.eTup, Dl.eLst, Dl.eIf, Dl.eAndV, Dl.eOrV, Dl.eNotV, Dl.aCons, Dl.aNil, List.getElem?_cons_zero, List.getElem?_cons_succ, Dl.bindN_ok, Dl.Sl.d_dat, Dl.Sl.d_own, Dl.retI, Dl.retB, Dl.isB, if_true, if_false, Bool.false_eq_true, Dl.oOfN_ok, List.set_cons_zero, List.set_cons_succ, Dl.fixs, Dl.Env.fix, Dl.oSet, Dl.oRet, Dl.oMutS, Dl.mMut, hdk, hkv, hbg, hput]
    cases v with
    | zero =>
      have ir : gIx (.list (trL T)) (nD 0) = .ok (.dat rootD) := ix_root T
      have jr : gIx rootD (.int 0) = .ok (.dat .none) := gIx_t rfl
      refine (while_t (ρ' := [sd (.list (trL T)), x1, x2, so (.dict (dB (vs ++ [0]))), sd .none]) (by simp only [Dl.tOrF, Dl.tAndF, Dl.tNotF, Dl.tOf, Dl.eOp, Dl.eUn, Dl.eC, Dl.eVar, Dl.eCall, Dl.eMeth, Dl.eTup, Dl.eLst, Dl.eIf, Dl.eAndV, Dl.eOrV, Dl.eNotV, Dl.aCons, Dl.aNil, List.getElem?_cons_zero, List.getElem?_cons_succ, Dl.bindN_ok, Dl.Sl.d_dat, Dl.Sl.d_own, Dl.retI, Dl.retB, Dl.isB, if_true, if_false, Bool.false_eq_true, Dl.oOfN_ok, List.set_cons_zero, List.set_cons_succ, Dl.fixs, Dl.Env.fix, Dl.oSet, Dl.oRet, Dl.oMutS, Dl.mMut, nn]) (seqN put (by simp only [Dl.tOrF, Dl.tAndF, Dl.tNotF, Dl.tOf, Dl.eOp, Dl.eUn, Dl.eC, Dl.eVar, Dl.eCall, Dl.eMeth, Dl.eTup, Dl.eLst, Dl.eIf, Dl.eAndV, Dl.eOrV, Dl.eNotV, Dl.aCons, Dl.aNil, List.getElem?_cons_zero, List.getElem?_cons_succ, Dl.bindN_ok, Dl.Sl.d_dat, Dl.Sl.d_own, Dl.retI, Dl.retB, Dl.isB, if_true, if_false, Bool.false_eq_true, Dl.oOfN_ok, List.set_cons_zero, List.set_cons_succ, Dl.fixs, Dl.Env.fix, Dl.oSet, Dl.oRet, Dl.oMutS, Dl.mMut, ir, jr]))).trans ?_
      obtain ⟨f, rfl⟩ : ∃ f', f = f' + 1 := ⟨f - 1, by omega⟩
      rw [chain_zero]
      have n0 : gNotN .none .none = retB false := rfl
      exact while_f (by simp only [Dl.tOrF, Dl.tAndF, Dl.tNotF, Dl.tOf, Dl.eOp, Dl.eUn, Dl.eC, Dl.eVar, Dl.eCall, Dl.eMeth, Dl.eTup, Dl.eLst, Dl.eIf, Dl.eAndV, Dl.eOrV, Dl.eNotV, Dl.aCons, Dl.aNil, List.getElem?_cons_zero, List.getElem?_cons_succ, Dl.bindN_ok, Dl.Sl.d_dat, Dl.Sl.d_own, Dl.retI, Dl.retB, Dl.isB, if_true, if_false, Bool.false_eq_true, Dl.oOfN_ok, List.set_cons_zero, List.set_cons_succ, Dl.fixs, Dl.Env.fix, Dl.oSet, Dl.oRet, Dl.oMutS, Dl.mMut, n0])
    | succ k =>
      have hk : k < T.length := by omega
      have hp := ok.parD k
      have ik := ndD_get hk
      have j0 := j0_nd (T.getD k (0, []))
      rw [chain_succ ok] at hnd hl ⊢
      have h2 := ih _ (show (T.getD k (0, [])).1 < k + 1 by omega) f (vs ++ [k + 1]) (by omega) (by omega) (by rw [List.append_assoc]; exact hnd) (by rw [List.append_assoc, List.length_append]; exact hl)
      rw [List.append_assoc] at h2
      exact (while_t (by simp only [Dl.tOrF, Dl.tAndF, Dl.tNotF, Dl.tOf, Dl.eOp, Dl.eUn, Dl.eC, Dl.eVar, Dl.eCall, Dl.eMeth, Dl.eTup, Dl.eLst, Dl.eIf, Dl.eAndV, Dl.eOrV, Dl.eNotV, Dl.aCons, Dl.aNil, List.getElem?_cons_zero, List.getElem?_cons_succ, Dl.bindN_ok, Dl.Sl.d_dat, Dl.Sl.d_own, Dl.retI, Dl.retB, Dl.isB, if_true, if_false, Bool.false_eq_true, Dl.oOfN_ok, List.set_cons_zero, List.set_cons_succ, Dl.fixs, Dl.Env.fix, Dl.oSet, Dl.oRet, Dl.oMutS, Dl.mMut, nn]) (seqN put (by simp only [Dl.tOrF, Dl.tAndF, Dl.tNotF, Dl.tOf, Dl.eOp, Dl.eUn, Dl.eC, Dl.eVar, Dl.eCall, Dl.eMeth, Dl.eTup, Dl.eLst, Dl.eIf, Dl.eAndV, Dl.eOrV, Dl.eNotV, Dl.aCons, Dl.aNil, List.getElem?_cons_zero, List.getElem?_cons_succ, Dl.bindN_ok, Dl.Sl.d_dat, Dl.Sl.d_own, Dl.retI, Dl.retB, Dl.isB, if_true, if_false, Bool.false_eq_true, Dl.oOfN_ok, List.set_cons_zero, List.set_cons_succ, Dl.fixs, Dl.Env.fix, Dl.oSet, Dl.oRet, Dl.oMutS, Dl.mMut, ik, j0]))).trans h2
theorem up_common {n : Nat} {T : Tr} (ok : TrOk n T) (x1 x2 : Option Sl) (S : List Nat) (h0 : 0 ∈ S) (hx1 : ∃ d, x1 = sd d) (hx2 : ∃ d, x2 = sd d) : ∀ (v f : Nat), v ≤ T.length → v < f →
    ∃ c, c ≤ T.length ∧ c ∈ S ∧ c ∈ chainT T v ∧ (∀ x ∈ path T v, x + 1 ∈ S → x ∈ path T c) ∧ oWhile (tPub (tOf (eOp gNotInK (eVar 4) (eVar 3)))) (oSet 4 (eOp gIx (eOp gIx (eVar 0) (eVar 4)) (eC (.int 0)))) f [sd (.list (trL T)), x1, x2, so (.dict (dB S)), sd (nD v)] = .nx [sd (.list (trL T)), x1, x2, so (.dict (dB S)), sd (nD c)] := by
  obtain ⟨d1, rfl⟩ := hx1
  obtain ⟨d2, rfl⟩ := hx2
  intro v
  induction v using Nat.strongRecOn with
  | _ v ih =>
    intro f hv hf
    obtain ⟨f, rfl⟩ : ∃ f', f = f' + 1 := ⟨f - 1, by omega⟩
    have tst : tPub (tOf (eOp gNotInK (eVar 4) (eVar 3))) [sd (.list (trL T)), sd d1, sd d2, so (.dict (dB S)), sd (nD v)] = .ok (!decide (v ∈ S)) := by
      have hin : gNotInK (nD v) (.dict (dB S)) = retB (!decide (v ∈ S)) := by
        unfold gNotInK gInKB
        have hkv : keyV (nD v) = some (.inl (v : Int)) := rfl
        simp only [isDK_dB, if_true, hkv, getK_dB, bindN_ok]
      show tOf (eOp gNotInK (eVar 4) (eVar 3)) [sd (.list (trL T)), sd d1, sd d2, sd (.dict (dB S)), sd (nD v)] = _
      simp only [Dl.tOrF, Dl.tAndF, Dl.tNotF, Dl.tOf, Dl.eOp, Dl.eUn, Dl.eC, Dl.eVar, Dl.eCall, Dl.eMeth, Dl.eTup, Dl.eLst, Dl.eIf, Dl.eAndV, Dl.eOrV, Dl.eNotV, Dl.aCons, Dl.aNil, List.getElem?_cons_zero, List.getElem?_cons_succ, Dl.bindN_ok, Dl.Sl.d_dat, Dl.Sl.d_own, Dl.retI, Dl.retB, Dl.isB, if_true, if_false, Bool.false_eq_true, Dl.oOfN_ok, List.set_cons_zero, List.set_cons_succ, Dl.fixs, Dl.Env.fix, Dl.oSet, Dl.oRet, Dl.oMutS, Dl.mMut, hin]
    by_cases hS : v ∈ S
    · exact ⟨v, hv, hS, self_chain ok v, fun x h _ => h, while_f (by rw [tst, decide_eq_true hS]; rfl)⟩
    · cases v with
      | zero => exact (hS h0).elim
      | succ k =>
        have hk : k < T.length := by omega
        have hp := ok.parD k
        have ik := ndD_get hk
        have j0 := j0_nd (T.getD k (0, []))
        obtain ⟨c, c1, c2, c3, c4, c5⟩ := ih _ (show (T.getD k (0, [])).1 < k + 1 by omega) f (by omega) (by omega)
        refine ⟨c, c1, c2, by rw [chain_succ ok]; exact List.mem_cons_of_mem _ c3, fun x hx h => ?_, ?_⟩
        · rw [path_succ ok] at hx
          rcases List.mem_cons.1 hx with rfl | hx
          · exact (hS h).elim
          · exact c4 x hx h
        · exact (while_t (by rw [tst, decide_eq_false hS]; rfl) (by simp only [Dl.tOrF, Dl.tAndF, Dl.tNotF, Dl.tOf, Dl.eOp, Dl.eUn, Dl.eC, Dl.eVar, Dl.eCall, Dl.eMeth, Dl.eTup, Dl.eLst, Dl.eIf, Dl.eAndV, Dl.eOrV, Dl.eNotV, Dl.aCons, Dl.aNil, List.getElem?_cons_zero, List.getElem?_cons_succ, Dl.bindN_ok, Dl.Sl.d_dat, Dl.Sl.d_own, Dl.retI, Dl.retB, Dl.isB, if_true, if_false, Bool.false_eq_true, Dl.oOfN_ok, List.set_cons_zero, List.set_cons_succ, Dl.fixs, Dl.Env.fix, Dl.oSet, Dl.oRet, Dl.oMutS, Dl.mMut, ik, j0])).trans c5
theorem between_spec {n : Nat} {T : Tr} {g : List Int} (ok : TrOk n T) (hn : n ≤ 500) (hg : g.length = n) {a b : Nat} (ha : a ≤ T.length) (hb : b ≤ T.length) : f_between [.list (trL T), nD a, nD b] = .ok (.dat (nD (unlR (rowN T g a) (rowN T g b)))) := by
  have hT := ok.len
  have cl := chain_len ok a
  have h1 := up_above ok (sd (nD a)) (sd (nD b)) a 100000 [] ha (by omega) (by rw [List.nil_append]; exact chain_nodup ok a) (by rw [List.nil_append]; omega)
  rw [List.nil_append] at h1
  obtain ⟨c, c1, c2, c3, c4, h2⟩ := up_common ok (sd (nD a)) (sd (nD b)) (chainT T a) (zero_chain T a) ⟨_, rfl⟩ ⟨_, rfl⟩ b 100000 hb (by omega)
  have cnt := unl_turn (g := g) (mkN_nodup ok ha) (mkN_nodup ok hb) (mkN_nodup ok c1) (fun x h => by rw [hg]; exact mkN_lt ok a x h) (fun x h => by rw [hg]; exact mkN_lt ok b x h) (fun x h => by rw [hg]; exact mkN_lt ok c x h) (mk_common ok ha hb c2 c3 c4)
  have d1 := depth_spec ok hn ha
  have d2 := depth_spec ok hn hb
  have d3 := depth_spec ok hn c1
  unfold f_between o_between
  refine fnO_rt rfl ?_
  show oSeq _ _ [sd (.list (trL T)), sd (nD a), sd (nD b), none, none] = _
  refine seqN (ρ' := [sd (.list (trL T)), sd (nD a), sd (nD b), so (.dict (dB [])), none]) rfl ?_
  refine seqN (ρ' := [sd (.list (trL T)), sd (nD a), sd (nD b), so (.dict (dB [])), sd (nD a)]) rfl ?_
  refine seqN h1 ?_
  refine seqN (ρ' := [sd (.list (trL T)), sd (nD a), sd (nD b), so (.dict (dB (chainT T a))), sd (nD b)]) rfl ?_
  refine seqN h2 ?_
  have fin : gSub (.int (((mkN T a).length : Int) + ((mkN T b).length : Int))) (.int (2 * ((mkN T c).length : Int))) = .ok (.dat (nD (unlR (rowN T g a) (rowN T g b)))) := by
    rw [gSub_ii]
    unfold rowN
    show M.ok (Sl.dat (.int _)) = M.ok (Sl.dat (.int _))
    congr 3
    omega
  unfold oRet
  have ad : gAdd (nD (mkN T a).length) (nD (mkN T b).length) = .ok (.dat (.int (((mkN T a).length : Int) + ((mkN T b).length : Int)))) := rfl
  have ml : gMul (.int 2) (nD (mkN T c).length) = .ok (.dat (.int (2 * ((mkN T c).length : Int)))) := by
    exact gMul_l (by decide) (by decide)
  simp only [Dl.tOrF, Dl.tAndF, Dl.tNotF, Dl.tOf, Dl.eOp, Dl.eUn, Dl.eC, Dl.eVar, Dl.eCall, Dl.eMeth, Dl.eTup, Dl.eLst, Dl.eIf, Dl.eAndV, Dl.eOrV, Dl.eNotV, Dl.aCons, Dl.aNil, List.getElem?_cons_zero, List.getElem?_cons_succ, Dl.bindN_ok, Dl.Sl.d_dat, Dl.Sl.d_own, Dl.retI, Dl.retB, Dl.isB, if_true, if_false, Bool.false_eq_true, Dl.oOfN_ok, List.set_cons_zero, List.set_cons_succ, Dl.fixs, Dl.Env.fix, Dl.oSet, Dl.oRet, Dl.oMutS, Dl.mMut, d1, d2, d3, ad, ml, fin]
end Dl
/-! A tree made by hand. -/
namespace Dl
open PySem PySem.Spec PyProof.Rows L2
theorem TrOk.snoc {n : Nat} {T : Tr} (ok : TrOk n T) {p : Nat} {ms : List Nat} (h1 : p ≤ T.length) (h2 : ms ≠ []) (h3 : ∀ m ∈ ms, m < n) (h4 : ms.Pairwise fun a b => a < b) (h5 : ∀ m ∈ ms, m ∉ T.flatMap (·.2)) : TrOk n (T ++ [(p, ms)]) where
  par := fun k h => by
    rw [List.length_append, List.length_singleton] at h
    by_cases e : k < T.length
    · rw [List.getElem_append_left e]
      exact ok.par k e
    · rw [List.getElem_append_right (by omega)]
      simp
      omega
  ne := fun q hq => by
    rcases List.mem_append.1 hq with hq | hq
    · exact ok.ne q hq
    · rw [List.mem_singleton.1 hq]; exact h2
  lt := fun q hq => by
    rcases List.mem_append.1 hq with hq | hq
    · exact ok.lt q hq
    · rw [List.mem_singleton.1 hq]; exact h3
  nd := by
    rw [List.flatMap_append, List.nodup_append]
    refine ⟨ok.nd, by simpa using up_nodup h4, fun a ha b hb e => ?_⟩
    subst e
    simp at hb
    exact h5 a hb ha
  up := fun q hq => by
    rcases List.mem_append.1 hq with hq | hq
    · exact ok.up q hq
    · rw [List.mem_singleton.1 hq]; exact h4
theorem TrOk.init {n : Nat} {T : Tr} {p : Nat} {ms : List Nat} (ok : TrOk n (T ++ [(p, ms)])) : TrOk n T ∧ p ≤ T.length ∧ ms ≠ [] ∧ (∀ m ∈ ms, m < n) ∧ (ms.Pairwise fun a b => a < b) ∧ ∀ m ∈ ms, m ∉ T.flatMap (·.2) := by
  have hm : (p, ms) ∈ T ++ [(p, ms)] := by simp
  have nd := ok.nd
  rw [List.flatMap_append, List.nodup_append] at nd
  refine ⟨⟨fun k h => ?_, fun q hq => ok.ne q (List.mem_append_left _ hq), fun q hq => ok.lt q (List.mem_append_left _ hq), nd.1, fun q hq => ok.up q (List.mem_append_left _ hq)⟩, ?_, ok.ne _ hm, ok.lt _ hm, ok.up _ hm, fun m h1 h2 => nd.2.2 m h2 m (by simpa using h1) rfl⟩
  · have := ok.par k (by rw [List.length_append]; omega)
    rw [List.getElem_append_left h] at this
    exact this
  · have := ok.par T.length (by simp)
    simpa using this
/-- a tree and the marks that are left -/
structure HOk (n : Nat) (left : List Nat) (T : Tr) : Prop where
  ok : TrOk n T
  nd : left.Nodup
  lt : ∀ d ∈ left, d < n
  out : ∀ d ∈ left, d ∉ T.flatMap (·.2)
theorem HOk.start (n : Nat) : HOk n (List.range n) [] := ⟨⟨fun _ h => by simp at h, (fun _ h => nomatch h), (fun _ h => nomatch h), List.nodup_nil, (fun _ h => nomatch h)⟩, List.nodup_range, fun d h => List.mem_range.1 h, fun _ _ h => nomatch h⟩
theorem HOk.pop {n : Nat} {left : List Nat} {T : Tr} (h : HOk n left T) {k d : Nat} (hd : left[k]? = some d) : HOk n (left.eraseIdx k) T ∧ d < n ∧ d ∉ T.flatMap (·.2) ∧ d ∉ left.eraseIdx k := by
  have hm := List.mem_of_getElem? hd
  have hk : k < left.length := by
    rcases Nat.lt_or_ge k left.length with h | h
    · exact h
    · rw [List.getElem?_eq_none h] at hd; cases hd
  have pm := erase_perm left k hk
  rw [List.getElem?_eq_getElem hk] at hd
  have hd := Option.some.inj hd
  rw [hd] at pm
  have nd := pm.nodup_iff.2 h.nd
  rw [List.nodup_cons] at nd
  have sub : ∀ x ∈ left.eraseIdx k, x ∈ left := fun x hx => pm.mem_iff.1 (List.mem_cons_of_mem _ hx)
  exact ⟨⟨h.ok, nd.2, fun x hx => h.lt x (sub x hx), fun x hx => h.out x (sub x hx)⟩, h.lt d hm, h.out d hm, nd.1⟩
theorem HOk.put {n : Nat} {left : List Nat} {T : Tr} (h : HOk n left T) {d p : Nat} (hd : d < n) (h1 : d ∉ T.flatMap (·.2)) (h2 : d ∉ left) (hp : p ≤ T.length) : HOk n left (T ++ [(p, [d])]) :=
  ⟨h.ok.snoc hp (by simp) (fun m hm => by rw [List.mem_singleton.1 hm]; exact hd) (List.pairwise_singleton _ _) (fun m hm => by rw [List.mem_singleton.1 hm]; exact h1), h.nd, h.lt, fun x hx z => by
    rw [List.flatMap_append, List.mem_append] at z
    rcases z with z | z
    · exact h.out x hx z
    · simp at z
      exact h2 (z ▸ hx)⟩
def srtN (l : List Nat) : List Nat := l.mergeSort fun a b => decide (a ≤ b)
theorem srtN_mem {l : List Nat} {x : Nat} : x ∈ srtN l ↔ x ∈ l := (List.mergeSort_perm l _).mem_iff
theorem srtN_up {l : List Nat} (h : l.Nodup) : (srtN l).Pairwise fun a b => a < b := by
  have p := List.pairwise_mergeSort (le := fun a b : Nat => decide (a ≤ b)) (fun a b c h1 h2 => by simp at *; omega) (fun a b => by simp; omega) l
  have nd : (srtN l).Nodup := (List.mergeSort_perm l _).nodup_iff.2 h
  refine List.Pairwise.imp (fun {a b} h => ?_) (List.Pairwise.and p nd)
  have := of_decide_eq_true h.1
  have := h.2
  omega
theorem HOk.grow {n : Nat} {left : List Nat} {T : Tr} {p : Nat} {ms : List Nat} (h : HOk n left (T ++ [(p, ms)])) {d : Nat} (hd : d < n) (h1 : d ∉ (T ++ [(p, ms)]).flatMap (·.2)) (h2 : d ∉ left) : HOk n left (T ++ [(p, srtN (ms ++ [d]))]) := by
  obtain ⟨a1, a2, a3, a4, a5, a6⟩ := h.ok.init
  rw [List.flatMap_append, List.mem_append, not_or] at h1
  obtain ⟨b1, b2⟩ := h1
  simp at b2
  have nd : (ms ++ [d]).Nodup := List.nodup_append.2 ⟨up_nodup a5, by simp, fun a ha b hb e => b2 (by rw [List.mem_singleton.1 hb] at e; exact e ▸ ha)⟩
  refine ⟨a1.snoc a2 (fun z => ?_) (fun m hm => ?_) (srtN_up nd) (fun m hm => ?_), h.nd, h.lt, fun x hx z => ?_⟩
  · have : d ∈ srtN (ms ++ [d]) := srtN_mem.2 (by simp)
    rw [z] at this
    cases this
  · rcases List.mem_append.1 (srtN_mem.1 hm) with hm | hm
    · exact a4 m hm
    · rw [List.mem_singleton.1 hm]; exact hd
  · rcases List.mem_append.1 (srtN_mem.1 hm) with hm | hm
    · exact a6 m hm
    · rw [List.mem_singleton.1 hm]; exact b1
  · rw [List.flatMap_append, List.mem_append] at z
    have ho := h.out x hx
    rw [List.flatMap_append, List.mem_append, not_or] at ho
    rcases z with z | z
    · exact ho.1 z
    · simp at z ho
      rcases List.mem_append.1 (srtN_mem.1 z) with z | z
      · exact ho.2 z
      · rw [List.mem_singleton.1 z] at hx; exact h2 hx
theorem sortedU_gen (l : List Nat) : gSortedU [rowD (nl l)] = .ok (.own (.list ((srtN l).map nD))) := by
  rw [rowD_nl]
  unfold gSortedU
  dsimp only
  rw [if_pos (srtOk_nD' l), srt_nD]
  rfl
theorem trL_snoc (T : Tr) (q : Nat × List Nat) : trL (T ++ [q]) = trL T ++ [ndD q] := by
  unfold trL
  rw [List.map_append]
  rfl
theorem grow_step (S N : PyData) (T : Tr) (p : Nat) (ms left : List Nat) (x d : PyData) (dn : Nat) (hd : d = nD dn) (hT : T.length ≤ 1000) (hm : ms.length ≤ 1000) :
    oMutS (mMutM 2 gAppend (amCons (mTup (amConsM (mLift (ePub (eOp gIx (eOp gIx (eVar 2) (eUn gNeg (eC (.int 1)))) (eC (.int 0))))) (amCons (mCall gTuple (amCons (mCall gSortedU (amCons (mOp gAdd (mOp gIx (mMut 2 gPop aNil) (eC (.int 1))) (eTup (aCons (eVar 5) aNil))) aNil)) aNil)) aNil))) aNil)) [sd S, sd N, so (.list (trL (T ++ [(p, ms)]))), so (.list (left.map nD)), sd x, sd d] =
      .nx [sd S, sd N, so (.list (trL (T ++ [(p, srtN (ms ++ [dn]))]))), so (.list (left.map nD)), sd x, sd d] := by
  subst hd
  have tl := trL_snoc T (p, ms)
  have ll : (trL T).length = T.length + 1 := by unfold trL; rw [List.length_cons, List.length_map]
  have i1 : gIx (.list (trL (T ++ [(p, ms)]))) (.int (-1)) = .ok (.dat (ndD (p, ms))) := by
    refine gIx_l ?_
    rw [tl]
    unfold atI ixN
    rw [List.length_append, List.length_singleton, ll]
    rw [if_neg (by omega), if_pos (by omega)]
    rw [show (-1 + ((T.length + 1 + 1 : Nat) : Int)).toNat = (trL T).length by rw [ll]; omega]
    simp
  have i0 : gIx (ndD (p, ms)) (.int 0) = .ok (.dat (nD p)) := gIx_t rfl
  have i2 : gIx (ndD (p, ms)) (.int 1) = .ok (.dat (rowD (nl ms))) := gIx_t rfl
  have ng : gNeg (.int 1) = .ok (.dat (.int (-1))) := rfl
  have e1 : mLift (ePub (eOp gIx (eOp gIx (eVar 2) (eUn gNeg (eC (.int 1)))) (eC (.int 0)))) [sd S, sd N, so (.list (trL (T ++ [(p, ms)]))), so (.list (left.map nD)), sd x, sd (nD dn)] = .ok (nD p, [sd S, sd N, so (.list (trL (T ++ [(p, ms)]))), so (.list (left.map nD)), sd x, sd (nD dn)]) := by
    unfold mLift ePub
    have : eOp gIx (eOp gIx (eVar 2) (eUn gNeg (eC (.int 1)))) (eC (.int 0)) (fixAll [sd S, sd N, so (.list (trL (T ++ [(p, ms)]))), so (.list (left.map nD)), sd x, sd (nD dn)]) = .ok (.dat (nD p)) := by
      show eOp gIx (eOp gIx (eVar 2) (eUn gNeg (eC (.int 1)))) (eC (.int 0)) [sd S, sd N, sd (.list (trL (T ++ [(p, ms)]))), sd (.list (left.map nD)), sd x, sd (nD dn)] = _
      simp only [Dl.tOrF, Dl.tAndF, Dl.tNotF, Dl.tOf, Dl.eOp, Dl.eUn, Dl.eC, Dl.eVar, Dl.eCall, Dl.eMeth, Dl.eTup, Dl.eLst, Dl.eIf, Dl.eAndV, Dl.eOrV, Dl.eNotV, Dl.aCons, Dl.aNil, List.getElem?_cons_zero, List.getElem?_cons_succ, Dl.bindN_ok, Dl.Sl.d_dat, Dl.Sl.d_own, Dl.retI, Dl.retB, Dl.isB, if_true, if_false, Bool.false_eq_true, Dl.oOfN_ok, List.set_cons_zero, List.set_cons_succ, Dl.fixs, Dl.Env.fix, Dl.oSet, Dl.oRet, Dl.oMutS, Dl.mMut, ng, i1, i0]
    rw [this, pubM_ok (show immSl (.dat (nD p)) = true from imm_int (p : Int)), bindN_ok]
    rfl
  have hpop : gPop (trL (T ++ [(p, ms)])) [] = some (trL T, ndD (p, ms)) := by
    rw [tl]
    unfold gPop
    simp
  have e2 : mMut 2 gPop aNil [sd S, sd N, so (.list (trL (T ++ [(p, ms)]))), so (.list (left.map nD)), sd x, sd (nD dn)] = .ok (ndD (p, ms), [sd S, sd N, so (.list (trL T)), so (.list (left.map nD)), sd x, sd (nD dn)]) := by
    simp only [mMut, List.getElem?_cons_zero, List.getElem?_cons_succ, aNil, bindN_ok, hpop, List.set_cons_zero, List.set_cons_succ]
  have ad : gAdd (rowD (nl ms)) (.tuple [nD dn]) = .ok (.dat (rowD (nl (ms ++ [dn])))) := by
    rw [rowD_nl, rowD_nl, List.map_append]
    exact gAdd_tt (by rw [List.length_map, List.length_singleton]; omega)
  have bg1 : big ([nD dn] : List PyData).length = true := rfl
  have bg2 : big ([nD p, .tuple ((srtN (ms ++ [dn])).map nD)] : List PyData).length = true := rfl
  have su := sortedU_gen (ms ++ [dn])
  have ap : gAppend (trL T) [.tuple [nD p, .tuple ((srtN (ms ++ [dn])).map nD)]] = some (trL (T ++ [(p, srtN (ms ++ [dn]))]), .none) := by
    rw [trL_snoc, gAppend_1 (by rw [ll]; omega)]
    unfold ndD
    rw [rowD_nl]
  unfold oMutS mMutM
  simp only [List.getElem?_cons_zero, List.getElem?_cons_succ, amCons, mTup, amConsM, e1, bindN_ok, mCall, mOp, e2, eC, i2, Sl.d_dat, eTup, aCons, aNil, eVar, bg1, if_true, ad, su, Sl.d_own, gTuple_l, bg2, ap, oOfN_ok, List.set_cons_zero, List.set_cons_succ]
theorem ifP_t {t : Env → M Bool} {ρ : Env} {b : Bool} (h : t (fixAll ρ) = .ok b) : tPub t ρ = .ok b := h
theorem by_hand_spec (ns : List Int) (n : Nat) (hn : n ≤ 100) : ∃ T, TrOk n T ∧ f_law_by_hand [scr ns, nD n] = .ok (.own (.list (trL T))) := by
  have q0 := cell_spec ns 5 (by omega)
  generalize cellAt ns (Int.toNat 5) = c at q0
  obtain ⟨st, s1, s2, s3⟩ := row_spec c (n : Int) 840 (by omega) (by omega) (by omega) (by omega)
  rw [Int.toNat_natCast] at s1
  have loop := forP (fi := iOf (eCall f_law_row (aCons (eCall f_law_cell (aCons (eVar 0) (aCons (eC (.int 5)) aNil))) (aCons (eVar 1) (aCons (eC (.int 840)) aNil))))) (bd := bN 4) (body := (oSeq (oMutA 5 (mMut 3 gPopAt (aCons (ePub (eOp gMod (eVar 4) (eCall gLen (aCons (eVar 3) aNil)))) aNil)))
    (oIf (tPub (tAndF (tOf (eOp gEq (eOp gMod (eOp gDiv (eVar 4) (eC (.int 8))) (eC (.int 5))) (eC (.int 4)))) (tOf (eOp (gCmp .Gt) (eCall gLen (aCons (eVar 2) aNil)) (eC (.int 1)))))) (oMutS (mMutM 2 gAppend (amCons (mTup (amConsM (mLift (ePub (eOp gIx (eOp gIx (eVar 2) (eUn gNeg (eC (.int 1)))) (eC (.int 0))))) (amCons (mCall gTuple (amCons (mCall gSortedU (amCons (mOp gAdd (mOp gIx (mMut 2 gPop aNil) (eC (.int 1))) (eTup (aCons (eVar 5) aNil))) aNil)) aNil)) aNil))) aNil))) (oIf (tOf (eOp (gCmp .Gt) (eOp gMod (eOp gDiv (eVar 4) (eC (.int 8))) (eC (.int 5))) (eC (.int 0)))) (oMutS (mMut 2 gAppend (aCons (ePub (eTup (aCons (eOp gMod (eOp gDiv (eVar 4) (eC (.int 40))) (eCall gLen (aCons (eVar 2) aNil))) (aCons (eTup (aCons (eVar 5) aNil)) aNil)))) aNil))) oNx))))
    (ρ := [sd (scr ns), sd (nD n), so (.list (trL [])), so (.list ((List.range n).map nD)), none, none]) PyData.int st
    (fun pre ρ => ∃ (left : List Nat) (T : Tr) (x4 x5 : Option Sl), left.length + pre.length = n ∧ HOk n left T ∧ ρ = [sd (scr ns), sd (nD n), so (.list (trL T)), so (.list (left.map nD)), x4, x5]) (by
      have s3' : f_law_row [.int c, nD n, .int 840] = .ok (.own (.list (st.map PyData.int))) := s3
      simp only [Dl.tOrF, Dl.tAndF, Dl.tNotF, Dl.tOf, Dl.eOp, Dl.eUn, Dl.eC, Dl.eVar, Dl.eCall, Dl.eMeth, Dl.eTup, Dl.eLst, Dl.eIf, Dl.eAndV, Dl.eOrV, Dl.eNotV, Dl.aCons, Dl.aNil, List.getElem?_cons_zero, List.getElem?_cons_succ, Dl.bindN_ok, Dl.Sl.d_dat, Dl.Sl.d_own, Dl.retI, Dl.retB, Dl.isB, if_true, if_false, Bool.false_eq_true, Dl.oOfN_ok, List.set_cons_zero, List.set_cons_succ, Dl.fixs, Dl.Env.fix, Dl.oSet, Dl.oRet, Dl.oMutS, Dl.mMut, iOf, q0, s3']; rfl) ⟨List.range n, [], none, none, by simp, HOk.start n, rfl⟩ (by
    rintro pre x post ρ hl ⟨left, T, x4, x5, c1, H, rfl⟩
    have c3 := congrArg List.length hl
    simp at c3
    have hp : 0 < left.length := by omega
    obtain ⟨m, m1, m2⟩ := mod_nat x hp
    have hd : left[m]? = some left[m] := List.getElem?_eq_getElem m1
    generalize left[m] = d at hd
    obtain ⟨H1, hd1, hd2, hd3⟩ := H.pop hd
    have hT := H1.ok.len
    have hTl : (trL T).length = T.length + 1 := by unfold trL; rw [List.length_cons, List.length_map]
    have pa := popAt_spec (left := left) (k := (m : Int)) (by omega) (by omega) (by omega) (d := d) (by rw [Int.toNat_natCast]; exact hd)
    rw [Int.toNat_natCast] at pa
    have ll : gLen [.list (left.map nD)] = retI (left.length : Int) := by rw [gLen_l, List.length_map]
    have e1 : ePub (eOp gMod (eVar 4) (eCall gLen (aCons (eVar 3) aNil))) [sd (scr ns), sd (nD n), so (.list (trL T)), so (.list (left.map nD)), sd (.int x), x5] = .ok (.dat (nD m)) := by
      have : eOp gMod (eVar 4) (eCall gLen (aCons (eVar 3) aNil)) (fixAll [sd (scr ns), sd (nD n), so (.list (trL T)), so (.list (left.map nD)), sd (.int x), x5]) = .ok (.dat (nD m)) := by
        rw [fixAll_map]
        simp only [List.map_cons, List.map_nil, eOp, eVar, List.getElem?_cons_zero, List.getElem?_cons_succ, fixS_dat, fixS_own, bindN_ok, eCall, aCons, aNil, Sl.d_dat, ll, retI]
        exact m2
      unfold ePub
      rw [this]
      exact pubM_ok (show immSl (.dat (nD m)) = true from imm_int (m : Int))
    have pop : oMutA 5 (mMut 3 gPopAt (aCons (ePub (eOp gMod (eVar 4) (eCall gLen (aCons (eVar 3) aNil)))) aNil)) [sd (scr ns), sd (nD n), so (.list (trL T)), so (.list (left.map nD)), sd (.int x), x5] = .nx [sd (scr ns), sd (nD n), so (.list (trL T)), so (.list ((left.eraseIdx m).map nD)), sd (.int x), sd (nD d)] := by
      unfold oMutA
      have pa' : gPopAt (left.map nD) [nD m] = some ((left.eraseIdx m).map nD, nD d) := pa
      simp only [mMut, List.getElem?_cons_zero, List.getElem?_cons_succ, aCons, aNil, e1, bindN_ok, Sl.d_dat, pa', oOfN_ok, List.set_cons_zero, List.set_cons_succ]
    have d8 : gDiv (.int x) (.int 8) = retI (x / 8) := gDiv_ii (by decide) (by decide)
    have m5 : gMod (.int (x / 8)) (.int 5) = retI (x / 8 % 5) := gMod_ii (by decide)
    have ln := len_tr T
    have hl1 : (left.eraseIdx m).length + (pre ++ [x]).length = n := by
      rw [List.length_eraseIdx, if_pos m1, List.length_append, List.length_singleton]
      omega
    have tst : tPub (tAndF (tOf (eOp gEq (eOp gMod (eOp gDiv (eVar 4) (eC (.int 8))) (eC (.int 5))) (eC (.int 4)))) (tOf (eOp (gCmp .Gt) (eCall gLen (aCons (eVar 2) aNil)) (eC (.int 1))))) [sd (scr ns), sd (nD n), so (.list (trL T)), so (.list ((left.eraseIdx m).map nD)), sd (.int x), sd (nD d)] = .ok (decide (x / 8 % 5 = 4) && decide (T ≠ [])) := by
      refine ifP_t ?_
      show tAndF _ _ [sd (scr ns), sd (nD n), sd (.list (trL T)), sd (.list ((left.eraseIdx m).map nD)), sd (.int x), sd (nD d)] = _
      by_cases h : x / 8 % 5 = 4
      · cases T with
        | nil =>
          have l0 : gLen [.list (trL [])] = retI 1 := rfl
          simp only [Dl.tOrF, Dl.tAndF, Dl.tNotF, Dl.tOf, Dl.eOp, Dl.eUn, Dl.eC, Dl.eVar, Dl.eCall, Dl.eMeth, Dl.eTup, Dl.eLst, Dl.eIf, Dl.eAndV, Dl.eOrV, Dl.eNotV, Dl.aCons, Dl.aNil, List.getElem?_cons_zero, List.getElem?_cons_succ, Dl.bindN_ok, Dl.Sl.d_dat, Dl.Sl.d_own, Dl.retI, Dl.retB, Dl.isB, if_true, if_false, Bool.false_eq_true, Dl.oOfN_ok, List.set_cons_zero, List.set_cons_succ, Dl.fixs, Dl.Env.fix, Dl.oSet, Dl.oRet, Dl.oMutS, Dl.mMut, d8, m5, gEq_ii, decide_eq_true h, l0, gCmp_ii, cmpI]
          simp
        | cons q T =>
          have g1 : gCmp .Gt (.int (((q :: T : Tr).length : Int) + 1)) (.int 1) = retB true := by
            rw [gCmp_ii]
            have : cmpI .Gt (((q :: T : Tr).length : Int) + 1) 1 = true := decide_eq_true (by rw [List.length_cons]; omega)
            rw [this]
          simp only [Dl.tOrF, Dl.tAndF, Dl.tNotF, Dl.tOf, Dl.eOp, Dl.eUn, Dl.eC, Dl.eVar, Dl.eCall, Dl.eMeth, Dl.eTup, Dl.eLst, Dl.eIf, Dl.eAndV, Dl.eOrV, Dl.eNotV, Dl.aCons, Dl.aNil, List.getElem?_cons_zero, List.getElem?_cons_succ, Dl.bindN_ok, Dl.Sl.d_dat, Dl.Sl.d_own, Dl.retI, Dl.retB, Dl.isB, if_true, if_false, Bool.false_eq_true, Dl.oOfN_ok, List.set_cons_zero, List.set_cons_succ, Dl.fixs, Dl.Env.fix, Dl.oSet, Dl.oRet, Dl.oMutS, Dl.mMut, d8, m5, gEq_ii, decide_eq_true h, ln, g1]
          simp
      · simp only [Dl.tOrF, Dl.tAndF, Dl.tNotF, Dl.tOf, Dl.eOp, Dl.eUn, Dl.eC, Dl.eVar, Dl.eCall, Dl.eMeth, Dl.eTup, Dl.eLst, Dl.eIf, Dl.eAndV, Dl.eOrV, Dl.eNotV, Dl.aCons, Dl.aNil, List.getElem?_cons_zero, List.getElem?_cons_succ, Dl.bindN_ok, Dl.Sl.d_dat, Dl.Sl.d_own, Dl.retI, Dl.retB, Dl.isB, if_true, if_false, Bool.false_eq_true, Dl.oOfN_ok, List.set_cons_zero, List.set_cons_succ, Dl.fixs, Dl.Env.fix, Dl.oSet, Dl.oRet, Dl.oMutS, Dl.mMut, d8, m5, gEq_ii, decide_eq_false h]
        simp
    refine stI [sd (scr ns), sd (nD n), so (.list (trL T)), so (.list (left.map nD)), sd (.int x), x5] rfl ?_
    refine xSeq pop ?_
    by_cases h : x / 8 % 5 = 4 ∧ T ≠ []
    · obtain ⟨h1, h2⟩ := h
      obtain ⟨T', q, rfl⟩ := (List.eq_nil_or_concat T).resolve_left h2
      obtain ⟨p, ms⟩ := q
      rw [List.concat_eq_append] at *
      have hml := H1.ok.mlen (q := (p, ms)) (by simp)
      refine xEnd (ifN_t (by rw [tst, decide_eq_true h1, decide_eq_true h2]; rfl) (grow_step (scr ns) (nD n) T' p ms (left.eraseIdx m) (.int x) (nD d) d rfl (by rw [List.length_append] at hT; omega) (by simp at hml; omega))) ⟨_, _, _, _, hl1, H1.grow hd1 hd2 hd3, rfl⟩
    · have tf : (decide (x / 8 % 5 = 4) && decide (T ≠ [])) = false := by
        rw [← Bool.decide_and]
        exact decide_eq_false h
      rw [tf] at tst
      by_cases h0 : x / 8 % 5 > 0
      · obtain ⟨y, y1, y2⟩ := mod_nat (x / 40) (show 0 < T.length + 1 by omega)
        have d40 : gDiv (.int x) (.int 40) = retI (x / 40) := gDiv_ii (by decide) (by decide)
        have y3 : gMod (.int (x / 40)) (.int ((T.length : Int) + 1)) = .ok (.dat (nD y)) := y2
        have bg1 : big ([nD d] : List PyData).length = true := rfl
        have bg2 : big ([nD y, .tuple [nD d]] : List PyData).length = true := rfl
        have tup : ePub (eTup (aCons (eOp gMod (eOp gDiv (eVar 4) (eC (.int 40))) (eCall gLen (aCons (eVar 2) aNil))) (aCons (eTup (aCons (eVar 5) aNil)) aNil))) [sd (scr ns), sd (nD n), so (.list (trL T)), so (.list ((left.eraseIdx m).map nD)), sd (.int x), sd (nD d)] = .ok (.dat (ndD (y, [d]))) := by
          unfold ePub
          have : eTup (aCons (eOp gMod (eOp gDiv (eVar 4) (eC (.int 40))) (eCall gLen (aCons (eVar 2) aNil))) (aCons (eTup (aCons (eVar 5) aNil)) aNil)) (fixAll [sd (scr ns), sd (nD n), so (.list (trL T)), so (.list ((left.eraseIdx m).map nD)), sd (.int x), sd (nD d)]) = .ok (.dat (ndD (y, [d]))) := by
            show eTup _ [sd (scr ns), sd (nD n), sd (.list (trL T)), sd (.list ((left.eraseIdx m).map nD)), sd (.int x), sd (nD d)] = _
            simp only [eTup, aCons, aNil, eOp, eVar, eC, eCall, List.getElem?_cons_zero, List.getElem?_cons_succ, bindN_ok, Sl.d_dat, d40, retI, ln, y3, bg1, bg2, if_true]
            rfl
          rw [this]
          refine pubM_ok (show immSl (.dat (ndD (y, [d]))) = true from ?_)
          rfl
        have ap : gAppend (trL T) [ndD (y, [d])] = some (trL (T ++ [(y, [d])]), .none) := by
          rw [trL_snoc, gAppend_1 (by rw [hTl]; omega)]
        refine xEnd (ρ' := [sd (scr ns), sd (nD n), so (.list (trL (T ++ [(y, [d])]))), so (.list ((left.eraseIdx m).map nD)), sd (.int x), sd (nD d)]) (ifN_f tst (ifN_t ?_ ?_)) ⟨_, _, _, _, hl1, H1.put hd1 hd2 hd3 (by omega), rfl⟩
        · have g1 : gCmp .Gt (.int (x / 8 % 5)) (.int 0) = retB true := by
            rw [gCmp_ii]
            have : cmpI .Gt (x / 8 % 5) 0 = true := decide_eq_true h0
            rw [this]
          simp only [Dl.tOrF, Dl.tAndF, Dl.tNotF, Dl.tOf, Dl.eOp, Dl.eUn, Dl.eC, Dl.eVar, Dl.eCall, Dl.eMeth, Dl.eTup, Dl.eLst, Dl.eIf, Dl.eAndV, Dl.eOrV, Dl.eNotV, Dl.aCons, Dl.aNil, List.getElem?_cons_zero, List.getElem?_cons_succ, Dl.bindN_ok, Dl.Sl.d_dat, Dl.Sl.d_own, Dl.retI, Dl.retB, Dl.isB, if_true, if_false, Bool.false_eq_true, Dl.oOfN_ok, List.set_cons_zero, List.set_cons_succ, Dl.fixs, Dl.Env.fix, Dl.oSet, Dl.oRet, Dl.oMutS, Dl.mMut, d8, m5, g1]
        · unfold oMutS
          simp only [mMut, List.getElem?_cons_zero, List.getElem?_cons_succ, aCons, aNil, tup, bindN_ok, Sl.d_dat, ap, oOfN_ok, List.set_cons_zero, List.set_cons_succ]
      · refine xEnd (ifN_f tst (ifN_f ?_ rfl)) ⟨_, _, _, _, hl1, H1, rfl⟩
        have g1 : gCmp .Gt (.int (x / 8 % 5)) (.int 0) = retB false := by
          rw [gCmp_ii]
          have : cmpI .Gt (x / 8 % 5) 0 = false := decide_eq_false h0
          rw [this]
        simp only [Dl.tOrF, Dl.tAndF, Dl.tNotF, Dl.tOf, Dl.eOp, Dl.eUn, Dl.eC, Dl.eVar, Dl.eCall, Dl.eMeth, Dl.eTup, Dl.eLst, Dl.eIf, Dl.eAndV, Dl.eOrV, Dl.eNotV, Dl.aCons, Dl.aNil, List.getElem?_cons_zero, List.getElem?_cons_succ, Dl.bindN_ok, Dl.Sl.d_dat, Dl.Sl.d_own, Dl.retI, Dl.retB, Dl.isB, if_true, if_false, Bool.false_eq_true, Dl.oOfN_ok, List.set_cons_zero, List.set_cons_succ, Dl.fixs, Dl.Env.fix, Dl.oSet, Dl.oRet, Dl.oMutS, Dl.mMut, d8, m5, g1])
  obtain ⟨ρ', k1, left, T, x4, x5, c1, H, rfl⟩ := loop
  refine ⟨T, H.ok, ?_⟩
  unfold f_law_by_hand o_law_by_hand
  refine fnO_rt rfl ?_
  show oSeq _ _ [sd (scr ns), sd (nD n), none, none, none, none] = _
  refine seqN (ρ' := [sd (scr ns), sd (nD n), so (.list (trL [])), none, none, none]) rfl ?_
  refine seqN (ρ' := [sd (scr ns), sd (nD n), so (.list (trL [])), so (.list ((List.range n).map nD)), none, none]) ?_ ?_
  · have hr := rng_map n
    have hi : isI (nD n) = .ok (n : Int) := rfl
    have hb : (0 : Int) ≤ (n : Int) ∧ (n : Int) ≤ 10000 := by omega
    refine (setE (sl := .own (.list ((List.range n).map nD))) ?_).trans rfl
    simp only [eLstRg1, eVar, List.getElem?_cons_zero, List.getElem?_cons_succ, bindN_ok, Sl.d_dat, hi]
    rw [if_pos hb, Int.toNat_natCast, hr]
  refine seqN k1 ?_
  rfl
end Dl
/-! k23 (printed by mk23.py) -/
namespace Dl
open PySem PySem.Spec PyProof.Rows L2
def thT (T : Tr) (g : List Int) : List (List Int) := (List.range (T.length + 1)).map fun v => rowN T g v
theorem thT_ix (T : Tr) (g : List Int) {v : Nat} (h : v ≤ T.length) : gIx (.list ((thT T g).map rowD)) (nD v) = .ok (.dat (rowD (rowN T g v))) := by
  refine gIx_l ?_
  rw [atI_pos (by omega), Int.toNat_natCast]
  unfold thT
  simp only [List.getElem?_map, List.getElem?_range (show v < T.length + 1 by omega), Option.map_some]
theorem thT_mem {T : Tr} {g r : List Int} (h : r ∈ thT T g) : ∃ v, v ≤ T.length ∧ rowN T g v = r := by
  obtain ⟨v, hv, rfl⟩ := List.mem_map.1 h
  have := List.mem_range.1 hv
  exact ⟨v, by omega, rfl⟩
theorem h_dm_root : dm 3 rootD = true := rfl
theorem h_dm_nd (q : Nat × List Nat) : dm 3 (ndD q) = true := by
  show (dm 2 (nD q.1) && (dm 2 (rowD (nl q.2)) && true)) = true
  have : dm 2 (rowD (nl q.2)) = true := dm_ints 1 (nl q.2)
  rw [this]
  rfl
theorem h_dm_tr (T : Tr) : dm 4 (.list (trL T)) = true := by
  show (trL T).all (dm 3) = true
  unfold trL
  rw [List.all_cons, h_dm_root, Bool.true_and, List.all_map]
  exact List.all_eq_true.2 fun q _ => h_dm_nd q
theorem h_dn_rows (l : List (List Int)) : dn 2 (.list (l.map rowD)) = true := by
  show (l.map rowD).all (dn 1) = true
  rw [List.all_map, List.all_eq_true]
  exact fun r _ => dn_row r
theorem thT_index {n : Nat} {T : Tr} {g : List Int} (ok : TrOk n T) (hg : g.length = n) {v : Nat} (hv : v ≤ T.length) : gIndex (.list ((thT T g).map rowD)) (rowD (rowN T g v)) = .ok (.dat (nD v)) := by
  have s1 : SeqAt.shaped (.list ((thT T g).map rowD)) = true := dn_shaped (n := 2) (h_dn_rows _) (by decide)
  have s2 : SeqAt.shaped (rowD (rowN T g v)) = true := dn_shaped (n := 1) (dn_row _) (by decide)
  have fi : ((thT T g).map rowD).findIdx? (fun z => PyData.eqv z (rowD (rowN T g v))) = some v := by
    rw [List.findIdx?_eq_some_iff_getElem]
    unfold thT
    refine ⟨by rw [List.length_map, List.length_map, List.length_range]; omega, ?_, fun k hk => ?_⟩
    · rw [List.getElem_map, List.getElem_map, List.getElem_range]
      exact (dn_eqv 1 1 _ _ (dn_row _) (dn_row _)).mpr rfl
    · rw [List.getElem_map, List.getElem_map, List.getElem_range]
      intro z
      have := row_inj.mp ((dn_eqv 1 1 _ _ (dn_row _) (dn_row _)).mp z)
      have := row_inj_node ok hg (by omega) hv this
      omega
  unfold gIndex
  dsimp only
  rw [s1, s2]
  simp only [Bool.and_self, if_true, fi]
theorem first_none {T : Tr} {g r : List Int} (h : r ∉ thT T g) : firstN T g r = .none := by
  unfold firstN
  have : (List.range (T.length + 1)).find? (fun v => decide (rowN T g v = r)) = none := by
    rw [List.find?_eq_none]
    intro v hv z
    exact h (List.mem_map.2 ⟨v, hv, of_decide_eq_true z⟩)
  rw [this]
theorem core23 (ns : List Int) (T : Tr) (g : List Int) (R : PyData) (ok : TrOk g.length T) (g3 : plainR g) (g2 : g.length ≤ 10) : ((oSeq (oFix [1] (oIf (tNotF (tOf (eCall f_law_is_tree (aCons (eVar 1) (aCons (eCall gLen (aCons (eVar 9) aNil)) aNil))))) (oRet (eC (.bool false))) oNx))
    (oSeq (oFix [1] (oSet 2 (eCall gList (aCons (eVar 1) aNil))))
    (oSeq (oFix [1] (oSet 3 (eLc (iAr (aCons (eCall gLen (aCons (eVar 1) aNil)) aNil) rng1Of) [4] (bN 4) (fun _ => .ok true) (eCall f_law_node_row (aCons (eVar 1) (aCons (eVar 9) (aCons (eVar 4) aNil)))))))
    (oSeq (oFix [1] (oForE (iAr (aCons (eCall gLen (aCons (eVar 1) aNil)) aNil) rng1Of) (bN 4) (oSeq (oFix [2] (oSet 11 (eCall f_row_at (aCons (eVar 2) (aCons (eVar 9) (aCons (eVar 4) aNil))))))
    (oSeq (oFix [3] (oIf (tOrF (tNotF (tOf (eCall f_law_is_row (aCons (eVar 11) (aCons (eCall gLen (aCons (eVar 9) aNil)) (aCons (eC (.int 1)) aNil)))))) (tOf (eOp gNe (eVar 11) (eOp gIx (eVar 3) (eVar 4))))) (oRet (eC (.bool false))) oNx))
    (oSeq (oFix [2, 3] (oSet 12 (eCall f_node_of (aCons (eVar 2) (aCons (eVar 9) (aCons (eOp gIx (eVar 3) (eVar 4)) aNil))))))
    (oSeq (oIf (tOrF (tNotF (tOf (eCall f_law_whole (aCons (eVar 12) aNil)))) (tOf (eOp gNe (eVar 12) (eVar 4)))) (oRet (eC (.bool false))) oNx)
    (oSeq (oFix [2] (oSet 13 (eCall f_depth_of (aCons (eVar 2) (aCons (eVar 4) aNil)))))
    (oFix [3] (oIf (tOrF (tNotF (tOf (eCall f_law_whole (aCons (eVar 13) aNil)))) (tOf (eOp gNe (eVar 13) (eCall f_law_unlike (aCons (eVar 9) (aCons (eOp gIx (eVar 3) (eVar 4)) aNil)))))) (oRet (eC (.bool false))) oNx)))))))))
    (oSeq (oFix [1] (oSet 5 (eOp gMod (eCall f_law_cell (aCons (eVar 0) (aCons (eC (.int 6)) aNil))) (eCall gLen (aCons (eVar 1) aNil)))))
    (oSeq (oFix [1] (oSet 6 (eOp gMod (eCall f_law_cell (aCons (eVar 0) (aCons (eC (.int 7)) aNil))) (eCall gLen (aCons (eVar 1) aNil)))))
    (oSeq (oFix [2] (oSet 7 (eCall f_between (aCons (eVar 2) (aCons (eVar 5) (aCons (eVar 6) aNil))))))
    (oSeq (oFix [3] (oIf (tOrF (tNotF (tOf (eCall f_law_whole (aCons (eVar 7) aNil)))) (tOf (eOp gNe (eVar 7) (eCall f_law_unlike (aCons (eOp gIx (eVar 3) (eVar 5)) (aCons (eOp gIx (eVar 3) (eVar 6)) aNil)))))) (oRet (eC (.bool false))) oNx))
    (oSeq (oFix [1, 2] (oIf (tOrF (tOf (eOp gNe (eCall f_between (aCons (eVar 2) (aCons (eVar 6) (aCons (eVar 5) aNil)))) (eVar 7))) (tOrF (tOf (eOp gNe (eCall f_between (aCons (eVar 2) (aCons (eVar 5) (aCons (eVar 5) aNil)))) (eC (.int 0)))) (tOf (eOp gNe (eVar 2) (eVar 1))))) (oRet (eC (.bool false))) oNx))
    (oSeq (oSet 8 (eCall gTuple (aCons (eCall f_law_row (aCons (eCall f_law_cell (aCons (eVar 0) (aCons (eC (.int 8)) aNil))) (aCons (eCall gLen (aCons (eVar 9) aNil)) (aCons (eC (.int 2)) aNil)))) aNil)))
    (oSeq (oFix [3] (oIf (tOf (eOp gIn (eVar 8) (eVar 3))) (oFix [2, 3] (oRet (eOp gEq (eCall f_node_of (aCons (eVar 2) (aCons (eVar 9) (aCons (eVar 8) aNil)))) (eIndex (eVar 3) (eVar 8))))) oNx))
    (oFix [2] (oRet (eOp gIsN (eCall f_node_of (aCons (eVar 2) (aCons (eVar 9) (aCons (eVar 8) aNil)))) (eC .none)))))))))))))))) [sd (scr ns), so (.list (trL T)), none, none, none, none, none, none, none, sd (rowD g), sd R, none, none, none] = .rt (.dat (.bool true)) := by
  have hT := ok.len
  have isT := tree_is T g.length ok (by omega)
  have hgl : gLen [rowD g] = retI (g.length : Int) := by rw [gLen_t, List.length_map]
  have isT' : f_law_is_tree [.list (trL T), .int (g.length : Int)] = .ok (.dat (.bool true)) := isT
  have ln := len_tr T
  have rg := rng_len T (by omega)
  have hrow := fun v (hv : v ≤ T.length) => row_at_spec (g := g) ok (by omega) rfl hv
  have hnr := fun v (hv : v ≤ T.length) => node_row_spec (g := g) ok (by omega) rfl hv
  have hno := node_of_spec (g := g) ok (by omega) rfl
  have hde := fun v (hv : v ≤ T.length) => depth_spec ok (by omega) hv
  have hbt := fun a b (ha : a ≤ T.length) (hb : b ≤ T.length) => between_spec (g := g) ok (by omega) rfl ha hb
  have hfr := fun v (hv : v ≤ T.length) => first_row (g := g) ok rfl hv
  have hun := fun a b => law_unlike_spec (a := rowN T g a) (b := rowN T g b) (by unfold rowN; rw [turnR_len]; omega) (by unfold rowN; rw [turnR_len, turnR_len])
  have hug := fun b => law_unlike_spec (a := g) (b := rowN T g b) (by omega) (by unfold rowN; rw [turnR_len])
  have huf := fun v (hv : v ≤ T.length) => unl_founder (g := g) ok rfl hv
  have thi := fun v (hv : v ≤ T.length) => thT_ix T g hv
  have wh := fun (v : Nat) => whole_spec (v : Int)
  have wh' : ∀ v : Nat, f_law_whole [nD v] = .ok (.dat (.bool true)) := wh
  have hir := fun v => is_row_spec (rowN T g v) (g.length : Int) 1 (by unfold rowN; rw [turnR_len]) (fun x hx => by have := turnR_plain (ms := mkN T v) g3 x hx; omega)
  have ner : ∀ r : List Int, gNe (rowD r) (rowD r) = retB false := fun r => by rw [gNe_row]; simp
  have nen : ∀ v : Nat, gNe (nD v) (nD v) = retB false := fun v => by rw [ne_nD]; simp
  have l3 := lcE (fi := iAr (aCons (eCall gLen (aCons (eVar 1) aNil)) aNil) rng1Of) (own := [4]) (bd := bN 4) (fe := eCall f_law_node_row (aCons (eVar 1) (aCons (eVar 9) (aCons (eVar 4) aNil))))
    (ρ := [sd (scr ns), sd (.list (trL T)), so (.list (trL T)), none, none, none, none, none, none, sd (rowD g), sd R, none, none, none]) nD (List.range (T.length + 1)) (fun v => rowD (rowN T g v)) (by simp only [Dl.tOrF, Dl.tAndF, Dl.tNotF, Dl.tOf, Dl.eOp, Dl.eUn, Dl.eC, Dl.eVar, Dl.eCall, Dl.eMeth, Dl.eTup, Dl.eLst, Dl.eIf, Dl.eAndV, Dl.eOrV, Dl.eNotV, Dl.aCons, Dl.aNil, List.getElem?_cons_zero, List.getElem?_cons_succ, Dl.bindN_ok, Dl.Sl.d_dat, Dl.Sl.d_own, Dl.retI, Dl.retB, Dl.isB, if_true, if_false, Bool.false_eq_true, Dl.oOfN_ok, List.set_cons_zero, List.set_cons_succ, Dl.fixs, Dl.Env.fix, Dl.oSet, Dl.oRet, Dl.oMutS, Dl.mMut, iAr, ln, rg]) (by rw [List.length_range]; omega) fun v hv => by
      have hv := List.mem_range.1 hv
      have := hnr v (by omega)
      refine ⟨[sd (scr ns), sd (.list (trL T)), so (.list (trL T)), none, sd (nD v), none, none, none, none, sd (rowD g), sd R, none, none, none], rfl, .dat (rowD (rowN T g v)), ?_, rfl⟩
      simp only [Dl.tOrF, Dl.tAndF, Dl.tNotF, Dl.tOf, Dl.eOp, Dl.eUn, Dl.eC, Dl.eVar, Dl.eCall, Dl.eMeth, Dl.eTup, Dl.eLst, Dl.eIf, Dl.eAndV, Dl.eOrV, Dl.eNotV, Dl.aCons, Dl.aNil, List.getElem?_cons_zero, List.getElem?_cons_succ, Dl.bindN_ok, Dl.Sl.d_dat, Dl.Sl.d_own, Dl.retI, Dl.retB, Dl.isB, if_true, if_false, Bool.false_eq_true, Dl.oOfN_ok, List.set_cons_zero, List.set_cons_succ, Dl.fixs, Dl.Env.fix, Dl.oSet, Dl.oRet, Dl.oMutS, Dl.mMut, this]
  rw [show (List.range (T.length + 1)).map (fun v => rowD (rowN T g v)) = (thT T g).map rowD by unfold thT; rw [List.map_map]; rfl] at l3
  have hin := fun r => in_rows r (thT T g)
  have hix := fun v (hv : v ≤ T.length) => thT_index (g := g) ok rfl hv
  have hfn := fun r => first_none (T := T) (g := g) (r := r)
  have hme := fun r => thT_mem (T := T) (g := g) (r := r)
  generalize thT T g = th at thi l3 hin hix hfn hme
  refine seqN (ρ' := [sd (scr ns), sd (.list (trL T)), none, none, none, none, none, none, none, sd (rowD g), sd R, none, none, none]) (fixN (ifN_f ?_ rfl)) ?_
  · show tNotF _ [sd (scr ns), sd (.list (trL T)), none, none, none, none, none, none, none, sd (rowD g), sd R, none, none, none] = _
    simp only [Dl.tOrF, Dl.tAndF, Dl.tNotF, Dl.tOf, Dl.eOp, Dl.eUn, Dl.eC, Dl.eVar, Dl.eCall, Dl.eMeth, Dl.eTup, Dl.eLst, Dl.eIf, Dl.eAndV, Dl.eOrV, Dl.eNotV, Dl.aCons, Dl.aNil, List.getElem?_cons_zero, List.getElem?_cons_succ, Dl.bindN_ok, Dl.Sl.d_dat, Dl.Sl.d_own, Dl.retI, Dl.retB, Dl.isB, if_true, if_false, Bool.false_eq_true, Dl.oOfN_ok, List.set_cons_zero, List.set_cons_succ, Dl.fixs, Dl.Env.fix, Dl.oSet, Dl.oRet, Dl.oMutS, Dl.mMut, hgl, isT', Bool.not_true]
  refine seqN (ρ' := [sd (scr ns), sd (.list (trL T)), so (.list (trL T)), none, none, none, none, none, none, sd (rowD g), sd R, none, none, none]) (fixN ?_) ?_
  · show oSet 2 _ [sd (scr ns), sd (.list (trL T)), none, none, none, none, none, none, none, sd (rowD g), sd R, none, none, none] = _
    simp only [Dl.tOrF, Dl.tAndF, Dl.tNotF, Dl.tOf, Dl.eOp, Dl.eUn, Dl.eC, Dl.eVar, Dl.eCall, Dl.eMeth, Dl.eTup, Dl.eLst, Dl.eIf, Dl.eAndV, Dl.eOrV, Dl.eNotV, Dl.aCons, Dl.aNil, List.getElem?_cons_zero, List.getElem?_cons_succ, Dl.bindN_ok, Dl.Sl.d_dat, Dl.Sl.d_own, Dl.retI, Dl.retB, Dl.isB, if_true, if_false, Bool.false_eq_true, Dl.oOfN_ok, List.set_cons_zero, List.set_cons_succ, Dl.fixs, Dl.Env.fix, Dl.oSet, Dl.oRet, Dl.oMutS, Dl.mMut, gList_l]
  refine seqN (ρ' := [sd (scr ns), sd (.list (trL T)), so (.list (trL T)), so (.list (th.map rowD)), none, none, none, none, none, sd (rowD g), sd R, none, none, none]) (fixN (setE l3)) ?_
  refine forSF nD (List.range (T.length + 1)) (fun _ ρ => ∃ x2 x3 x4 x11 x12 x13, (x2 = so (.list (trL T)) ∨ x2 = sd (.list (trL T))) ∧ (x3 = so (.list (th.map rowD)) ∨ x3 = sd (.list (th.map rowD))) ∧ ρ = [sd (scr ns), sd (.list (trL T)), x2, x3, x4, none, none, none, none, sd (rowD g), sd R, x11, x12, x13]) ?_ ⟨_, _, _, _, _, _, .inl rfl, .inl rfl, rfl⟩ ?_ ?_
  · show iAr _ _ [sd (scr ns), sd (.list (trL T)), so (.list (trL T)), so (.list (th.map rowD)), none, none, none, none, none, sd (rowD g), sd R, none, none, none] = _
    simp only [Dl.tOrF, Dl.tAndF, Dl.tNotF, Dl.tOf, Dl.eOp, Dl.eUn, Dl.eC, Dl.eVar, Dl.eCall, Dl.eMeth, Dl.eTup, Dl.eLst, Dl.eIf, Dl.eAndV, Dl.eOrV, Dl.eNotV, Dl.aCons, Dl.aNil, List.getElem?_cons_zero, List.getElem?_cons_succ, Dl.bindN_ok, Dl.Sl.d_dat, Dl.Sl.d_own, Dl.retI, Dl.retB, Dl.isB, if_true, if_false, Bool.false_eq_true, Dl.oOfN_ok, List.set_cons_zero, List.set_cons_succ, Dl.fixs, Dl.Env.fix, Dl.oSet, Dl.oRet, Dl.oMutS, Dl.mMut, iAr, ln, rg]
  · rintro pre v post ρ hpre ⟨x2, x3, x4, x11, x12, x13, h2, h3, rfl⟩
    have hv : v ≤ T.length := by
      have : v ∈ List.range (T.length + 1) := by rw [hpre]; simp
      have := List.mem_range.1 this
      omega
    have e1 := hrow v hv
    have e2 := hir v
    have e3 := thi v hv
    have e4 := hno (rowN T g v)
    rw [hfr v hv] at e4
    have e5 := hde v hv
    have e6 := hug v
    rw [huf v hv] at e6
    have n1 := ner (rowN T g v)
    have n2 := nen v
    have n3 := nen (mkN T v).length
    have w1 := wh' v
    have w2 := wh' (mkN T v).length
    refine stI [sd (scr ns), sd (.list (trL T)), x2, x3, sd (nD v), none, none, none, none, sd (rowD g), sd R, x11, x12, x13] rfl ?_
    refine xSeq (ρ' := [sd (scr ns), sd (.list (trL T)), sd (.list (trL T)), x3, sd (nD v), none, none, none, none, sd (rowD g), sd R, sd (rowD (rowN T g v)), x12, x13]) (fixN ?_) ?_
    · have hf : fixs [sd (scr ns), sd (.list (trL T)), x2, x3, sd (nD v), none, none, none, none, sd (rowD g), sd R, x11, x12, x13] [2] = [sd (scr ns), sd (.list (trL T)), sd (.list (trL T)), x3, sd (nD v), none, none, none, none, sd (rowD g), sd R, x11, x12, x13] := by
        rcases h2 with rfl | rfl <;> rfl
      rw [hf]
      simp only [Dl.tOrF, Dl.tAndF, Dl.tNotF, Dl.tOf, Dl.eOp, Dl.eUn, Dl.eC, Dl.eVar, Dl.eCall, Dl.eMeth, Dl.eTup, Dl.eLst, Dl.eIf, Dl.eAndV, Dl.eOrV, Dl.eNotV, Dl.aCons, Dl.aNil, List.getElem?_cons_zero, List.getElem?_cons_succ, Dl.bindN_ok, Dl.Sl.d_dat, Dl.Sl.d_own, Dl.retI, Dl.retB, Dl.isB, if_true, if_false, Bool.false_eq_true, Dl.oOfN_ok, List.set_cons_zero, List.set_cons_succ, Dl.fixs, Dl.Env.fix, Dl.oSet, Dl.oRet, Dl.oMutS, Dl.mMut, e1]
    have hf3 : ∀ x11 x12 x13, fixs [sd (scr ns), sd (.list (trL T)), sd (.list (trL T)), x3, sd (nD v), none, none, none, none, sd (rowD g), sd R, x11, x12, x13] [3] = [sd (scr ns), sd (.list (trL T)), sd (.list (trL T)), sd (.list (th.map rowD)), sd (nD v), none, none, none, none, sd (rowD g), sd R, x11, x12, x13] := by
      intro x11 x12 x13
      rcases h3 with rfl | rfl <;> rfl
    refine xSeq (ρ' := [sd (scr ns), sd (.list (trL T)), sd (.list (trL T)), sd (.list (th.map rowD)), sd (nD v), none, none, none, none, sd (rowD g), sd R, sd (rowD (rowN T g v)), x12, x13]) (fixN ?_) ?_
    · rw [hf3]
      exact ifN_f (by simp only [Dl.tOrF, Dl.tAndF, Dl.tNotF, Dl.tOf, Dl.eOp, Dl.eUn, Dl.eC, Dl.eVar, Dl.eCall, Dl.eMeth, Dl.eTup, Dl.eLst, Dl.eIf, Dl.eAndV, Dl.eOrV, Dl.eNotV, Dl.aCons, Dl.aNil, List.getElem?_cons_zero, List.getElem?_cons_succ, Dl.bindN_ok, Dl.Sl.d_dat, Dl.Sl.d_own, Dl.retI, Dl.retB, Dl.isB, if_true, if_false, Bool.false_eq_true, Dl.oOfN_ok, List.set_cons_zero, List.set_cons_succ, Dl.fixs, Dl.Env.fix, Dl.oSet, Dl.oRet, Dl.oMutS, Dl.mMut, hgl, e2, Bool.not_true, e3, n1]) rfl
    refine xSeq (ρ' := [sd (scr ns), sd (.list (trL T)), sd (.list (trL T)), sd (.list (th.map rowD)), sd (nD v), none, none, none, none, sd (rowD g), sd R, sd (rowD (rowN T g v)), sd (nD v), x13]) (fixN ?_) ?_
    · show oSet 12 _ [sd (scr ns), sd (.list (trL T)), sd (.list (trL T)), sd (.list (th.map rowD)), sd (nD v), none, none, none, none, sd (rowD g), sd R, sd (rowD (rowN T g v)), x12, x13] = _
      simp only [Dl.tOrF, Dl.tAndF, Dl.tNotF, Dl.tOf, Dl.eOp, Dl.eUn, Dl.eC, Dl.eVar, Dl.eCall, Dl.eMeth, Dl.eTup, Dl.eLst, Dl.eIf, Dl.eAndV, Dl.eOrV, Dl.eNotV, Dl.aCons, Dl.aNil, List.getElem?_cons_zero, List.getElem?_cons_succ, Dl.bindN_ok, Dl.Sl.d_dat, Dl.Sl.d_own, Dl.retI, Dl.retB, Dl.isB, if_true, if_false, Bool.false_eq_true, Dl.oOfN_ok, List.set_cons_zero, List.set_cons_succ, Dl.fixs, Dl.Env.fix, Dl.oSet, Dl.oRet, Dl.oMutS, Dl.mMut, e3, e4]
    refine xSeq (ρ' := [sd (scr ns), sd (.list (trL T)), sd (.list (trL T)), sd (.list (th.map rowD)), sd (nD v), none, none, none, none, sd (rowD g), sd R, sd (rowD (rowN T g v)), sd (nD v), x13]) (ifN_f (by simp only [Dl.tOrF, Dl.tAndF, Dl.tNotF, Dl.tOf, Dl.eOp, Dl.eUn, Dl.eC, Dl.eVar, Dl.eCall, Dl.eMeth, Dl.eTup, Dl.eLst, Dl.eIf, Dl.eAndV, Dl.eOrV, Dl.eNotV, Dl.aCons, Dl.aNil, List.getElem?_cons_zero, List.getElem?_cons_succ, Dl.bindN_ok, Dl.Sl.d_dat, Dl.Sl.d_own, Dl.retI, Dl.retB, Dl.isB, if_true, if_false, Bool.false_eq_true, Dl.oOfN_ok, List.set_cons_zero, List.set_cons_succ, Dl.fixs, Dl.Env.fix, Dl.oSet, Dl.oRet, Dl.oMutS, Dl.mMut, w1, Bool.not_true, n2]) rfl) ?_
    refine xSeq (ρ' := [sd (scr ns), sd (.list (trL T)), sd (.list (trL T)), sd (.list (th.map rowD)), sd (nD v), none, none, none, none, sd (rowD g), sd R, sd (rowD (rowN T g v)), sd (nD v), sd (nD (mkN T v).length)]) (fixN ?_) ?_
    · show oSet 13 _ [sd (scr ns), sd (.list (trL T)), sd (.list (trL T)), sd (.list (th.map rowD)), sd (nD v), none, none, none, none, sd (rowD g), sd R, sd (rowD (rowN T g v)), sd (nD v), x13] = _
      simp only [Dl.tOrF, Dl.tAndF, Dl.tNotF, Dl.tOf, Dl.eOp, Dl.eUn, Dl.eC, Dl.eVar, Dl.eCall, Dl.eMeth, Dl.eTup, Dl.eLst, Dl.eIf, Dl.eAndV, Dl.eOrV, Dl.eNotV, Dl.aCons, Dl.aNil, List.getElem?_cons_zero, List.getElem?_cons_succ, Dl.bindN_ok, Dl.Sl.d_dat, Dl.Sl.d_own, Dl.retI, Dl.retB, Dl.isB, if_true, if_false, Bool.false_eq_true, Dl.oOfN_ok, List.set_cons_zero, List.set_cons_succ, Dl.fixs, Dl.Env.fix, Dl.oSet, Dl.oRet, Dl.oMutS, Dl.mMut, e5]
    refine xEnd (ρ' := [sd (scr ns), sd (.list (trL T)), sd (.list (trL T)), sd (.list (th.map rowD)), sd (nD v), none, none, none, none, sd (rowD g), sd R, sd (rowD (rowN T g v)), sd (nD v), sd (nD (mkN T v).length)]) (fixN (ifN_f ?_ rfl)) ⟨_, _, _, _, _, _, .inr rfl, .inr rfl, rfl⟩
    show tOrF _ _ [sd (scr ns), sd (.list (trL T)), sd (.list (trL T)), sd (.list (th.map rowD)), sd (nD v), none, none, none, none, sd (rowD g), sd R, sd (rowD (rowN T g v)), sd (nD v), sd (nD (mkN T v).length)] = _
    simp only [Dl.tOrF, Dl.tAndF, Dl.tNotF, Dl.tOf, Dl.eOp, Dl.eUn, Dl.eC, Dl.eVar, Dl.eCall, Dl.eMeth, Dl.eTup, Dl.eLst, Dl.eIf, Dl.eAndV, Dl.eOrV, Dl.eNotV, Dl.aCons, Dl.aNil, List.getElem?_cons_zero, List.getElem?_cons_succ, Dl.bindN_ok, Dl.Sl.d_dat, Dl.Sl.d_own, Dl.retI, Dl.retB, Dl.isB, if_true, if_false, Bool.false_eq_true, Dl.oOfN_ok, List.set_cons_zero, List.set_cons_succ, Dl.fixs, Dl.Env.fix, Dl.oSet, Dl.oRet, Dl.oMutS, Dl.mMut, w2, Bool.not_true, e3, e6, n3]
  rintro ρ ⟨x2, x3, x4, x11, x12, x13, h2, h3, rfl⟩
  have q6 := cell_spec ns 6 (by omega)
  have q7 := cell_spec ns 7 (by omega)
  have q8 := cell_spec ns 8 (by omega)
  generalize cellAt ns (Int.toNat 6) = c6 at q6
  generalize cellAt ns (Int.toNat 7) = c7 at q7
  generalize cellAt ns (Int.toNat 8) = c8 at q8
  obtain ⟨a, a1, a2⟩ := mod_nat c6 (show 0 < T.length + 1 by omega)
  obtain ⟨b, b1, b2⟩ := mod_nat c7 (show 0 < T.length + 1 by omega)
  have a3 : gMod (.int c6) (.int ((T.length : Int) + 1)) = .ok (.dat (nD a)) := a2
  have b3 : gMod (.int c7) (.int ((T.length : Int) + 1)) = .ok (.dat (nD b)) := b2
  refine seqN (ρ' := [sd (scr ns), sd (.list (trL T)), x2, x3, x4, sd (nD a), none, none, none, sd (rowD g), sd R, x11, x12, x13]) (fixN ?_) ?_
  · show oSet 5 _ [sd (scr ns), sd (.list (trL T)), x2, x3, x4, none, none, none, none, sd (rowD g), sd R, x11, x12, x13] = _
    simp only [Dl.tOrF, Dl.tAndF, Dl.tNotF, Dl.tOf, Dl.eOp, Dl.eUn, Dl.eC, Dl.eVar, Dl.eCall, Dl.eMeth, Dl.eTup, Dl.eLst, Dl.eIf, Dl.eAndV, Dl.eOrV, Dl.eNotV, Dl.aCons, Dl.aNil, List.getElem?_cons_zero, List.getElem?_cons_succ, Dl.bindN_ok, Dl.Sl.d_dat, Dl.Sl.d_own, Dl.retI, Dl.retB, Dl.isB, if_true, if_false, Bool.false_eq_true, Dl.oOfN_ok, List.set_cons_zero, List.set_cons_succ, Dl.fixs, Dl.Env.fix, Dl.oSet, Dl.oRet, Dl.oMutS, Dl.mMut, q6, ln, a3]
  refine seqN (ρ' := [sd (scr ns), sd (.list (trL T)), x2, x3, x4, sd (nD a), sd (nD b), none, none, sd (rowD g), sd R, x11, x12, x13]) (fixN ?_) ?_
  · show oSet 6 _ [sd (scr ns), sd (.list (trL T)), x2, x3, x4, sd (nD a), none, none, none, sd (rowD g), sd R, x11, x12, x13] = _
    simp only [Dl.tOrF, Dl.tAndF, Dl.tNotF, Dl.tOf, Dl.eOp, Dl.eUn, Dl.eC, Dl.eVar, Dl.eCall, Dl.eMeth, Dl.eTup, Dl.eLst, Dl.eIf, Dl.eAndV, Dl.eOrV, Dl.eNotV, Dl.aCons, Dl.aNil, List.getElem?_cons_zero, List.getElem?_cons_succ, Dl.bindN_ok, Dl.Sl.d_dat, Dl.Sl.d_own, Dl.retI, Dl.retB, Dl.isB, if_true, if_false, Bool.false_eq_true, Dl.oOfN_ok, List.set_cons_zero, List.set_cons_succ, Dl.fixs, Dl.Env.fix, Dl.oSet, Dl.oRet, Dl.oMutS, Dl.mMut, q7, ln, b3]
  have f1 := hbt a b (by omega) (by omega)
  have f2 := hbt b a (by omega) (by omega)
  have f3 := hbt a a (by omega) (by omega)
  have u1 := hun a b
  have t1 := thi a (by omega)
  have t2 := thi b (by omega)
  have usym : unlR (rowN T g b) (rowN T g a) = unlR (rowN T g a) (rowN T g b) := by
    unfold unlR
    have : (rowN T g b).length = (rowN T g a).length := by unfold rowN; rw [turnR_len, turnR_len]
    rw [this]
    congr 1
    refine List.filter_congr fun i _ => ?_
    congr 1
    exact decide_eq_decide.2 ⟨Eq.symm, Eq.symm⟩
  have uself : unlR (rowN T g a) (rowN T g a) = 0 := by
    unfold unlR
    simp
  rw [usym] at f2
  rw [uself] at f3
  generalize unlR (rowN T g a) (rowN T g b) = d at f1 f2 u1
  refine seqN (ρ' := [sd (scr ns), sd (.list (trL T)), sd (.list (trL T)), x3, x4, sd (nD a), sd (nD b), sd (nD d), none, sd (rowD g), sd R, x11, x12, x13]) (fixN ?_) ?_
  · have hf : fixs [sd (scr ns), sd (.list (trL T)), x2, x3, x4, sd (nD a), sd (nD b), none, none, sd (rowD g), sd R, x11, x12, x13] [2] = [sd (scr ns), sd (.list (trL T)), sd (.list (trL T)), x3, x4, sd (nD a), sd (nD b), none, none, sd (rowD g), sd R, x11, x12, x13] := by
      rcases h2 with rfl | rfl <;> rfl
    rw [hf]
    simp only [Dl.tOrF, Dl.tAndF, Dl.tNotF, Dl.tOf, Dl.eOp, Dl.eUn, Dl.eC, Dl.eVar, Dl.eCall, Dl.eMeth, Dl.eTup, Dl.eLst, Dl.eIf, Dl.eAndV, Dl.eOrV, Dl.eNotV, Dl.aCons, Dl.aNil, List.getElem?_cons_zero, List.getElem?_cons_succ, Dl.bindN_ok, Dl.Sl.d_dat, Dl.Sl.d_own, Dl.retI, Dl.retB, Dl.isB, if_true, if_false, Bool.false_eq_true, Dl.oOfN_ok, List.set_cons_zero, List.set_cons_succ, Dl.fixs, Dl.Env.fix, Dl.oSet, Dl.oRet, Dl.oMutS, Dl.mMut, f1]
  have n4 := nen d
  have w4 := wh' d
  refine seqN (ρ' := [sd (scr ns), sd (.list (trL T)), sd (.list (trL T)), sd (.list (th.map rowD)), x4, sd (nD a), sd (nD b), sd (nD d), none, sd (rowD g), sd R, x11, x12, x13]) (fixN ?_) ?_
  · have hf : fixs [sd (scr ns), sd (.list (trL T)), sd (.list (trL T)), x3, x4, sd (nD a), sd (nD b), sd (nD d), none, sd (rowD g), sd R, x11, x12, x13] [3] = [sd (scr ns), sd (.list (trL T)), sd (.list (trL T)), sd (.list (th.map rowD)), x4, sd (nD a), sd (nD b), sd (nD d), none, sd (rowD g), sd R, x11, x12, x13] := by
      rcases h3 with rfl | rfl <;> rfl
    rw [hf]
    exact ifN_f (by simp only [Dl.tOrF, Dl.tAndF, Dl.tNotF, Dl.tOf, Dl.eOp, Dl.eUn, Dl.eC, Dl.eVar, Dl.eCall, Dl.eMeth, Dl.eTup, Dl.eLst, Dl.eIf, Dl.eAndV, Dl.eOrV, Dl.eNotV, Dl.aCons, Dl.aNil, List.getElem?_cons_zero, List.getElem?_cons_succ, Dl.bindN_ok, Dl.Sl.d_dat, Dl.Sl.d_own, Dl.retI, Dl.retB, Dl.isB, if_true, if_false, Bool.false_eq_true, Dl.oOfN_ok, List.set_cons_zero, List.set_cons_succ, Dl.fixs, Dl.Env.fix, Dl.oSet, Dl.oRet, Dl.oMutS, Dl.mMut, w4, Bool.not_true, t1, t2, u1, n4]) rfl
  have n0 : gNe (nD 0) (.int 0) = retB false := nen 0
  have ntr : gNe (.list (trL T)) (.list (trL T)) = retB false := gNe_refl (h_dm_tr T) (by decide)
  refine seqN (ρ' := [sd (scr ns), sd (.list (trL T)), sd (.list (trL T)), sd (.list (th.map rowD)), x4, sd (nD a), sd (nD b), sd (nD d), none, sd (rowD g), sd R, x11, x12, x13]) (fixN (ifN_f ?_ rfl)) ?_
  · show tOrF _ _ [sd (scr ns), sd (.list (trL T)), sd (.list (trL T)), sd (.list (th.map rowD)), x4, sd (nD a), sd (nD b), sd (nD d), none, sd (rowD g), sd R, x11, x12, x13] = _
    simp only [Dl.tOrF, Dl.tAndF, Dl.tNotF, Dl.tOf, Dl.eOp, Dl.eUn, Dl.eC, Dl.eVar, Dl.eCall, Dl.eMeth, Dl.eTup, Dl.eLst, Dl.eIf, Dl.eAndV, Dl.eOrV, Dl.eNotV, Dl.aCons, Dl.aNil, List.getElem?_cons_zero, List.getElem?_cons_succ, Dl.bindN_ok, Dl.Sl.d_dat, Dl.Sl.d_own, Dl.retI, Dl.retB, Dl.isB, if_true, if_false, Bool.false_eq_true, Dl.oOfN_ok, List.set_cons_zero, List.set_cons_succ, Dl.fixs, Dl.Env.fix, Dl.oSet, Dl.oRet, Dl.oMutS, Dl.mMut, f2, n4, f3, n0, ntr]
  obtain ⟨r, r1, r2, r3⟩ := row_spec c8 (g.length : Int) 2 (by omega) (by omega) (by omega) (by omega)
  refine seqN (ρ' := [sd (scr ns), sd (.list (trL T)), sd (.list (trL T)), sd (.list (th.map rowD)), x4, sd (nD a), sd (nD b), sd (nD d), sd (rowD r), sd (rowD g), sd R, x11, x12, x13]) (by simp only [Dl.tOrF, Dl.tAndF, Dl.tNotF, Dl.tOf, Dl.eOp, Dl.eUn, Dl.eC, Dl.eVar, Dl.eCall, Dl.eMeth, Dl.eTup, Dl.eLst, Dl.eIf, Dl.eAndV, Dl.eOrV, Dl.eNotV, Dl.aCons, Dl.aNil, List.getElem?_cons_zero, List.getElem?_cons_succ, Dl.bindN_ok, Dl.Sl.d_dat, Dl.Sl.d_own, Dl.retI, Dl.retB, Dl.isB, if_true, if_false, Bool.false_eq_true, Dl.oOfN_ok, List.set_cons_zero, List.set_cons_succ, Dl.fixs, Dl.Env.fix, Dl.oSet, Dl.oRet, Dl.oMutS, Dl.mMut, q8, hgl, r3, gTuple_l]; try rfl) ?_
  have i1 := hin r
  have m1 := hno r
  by_cases hr : r ∈ th
  · obtain ⟨v, hv, rfl⟩ := hme r hr
    rw [hfr v hv] at m1
    have x1 := hix v hv
    have en : gEq (nD v) (nD v) = retB true := by
      have := gEq_ii (i := (v : Int)) (j := (v : Int))
      rw [decide_eq_true rfl] at this
      exact this
    refine seqR (fixN (ifN_t ?_ (fixN ?_)))
    · show tOf _ [sd (scr ns), sd (.list (trL T)), sd (.list (trL T)), sd (.list (th.map rowD)), x4, sd (nD a), sd (nD b), sd (nD d), sd (rowD (rowN T g v)), sd (rowD g), sd R, x11, x12, x13] = _
      simp only [Dl.tOrF, Dl.tAndF, Dl.tNotF, Dl.tOf, Dl.eOp, Dl.eUn, Dl.eC, Dl.eVar, Dl.eCall, Dl.eMeth, Dl.eTup, Dl.eLst, Dl.eIf, Dl.eAndV, Dl.eOrV, Dl.eNotV, Dl.aCons, Dl.aNil, List.getElem?_cons_zero, List.getElem?_cons_succ, Dl.bindN_ok, Dl.Sl.d_dat, Dl.Sl.d_own, Dl.retI, Dl.retB, Dl.isB, if_true, if_false, Bool.false_eq_true, Dl.oOfN_ok, List.set_cons_zero, List.set_cons_succ, Dl.fixs, Dl.Env.fix, Dl.oSet, Dl.oRet, Dl.oMutS, Dl.mMut, i1, decide_eq_true hr]
    · show oRet _ [sd (scr ns), sd (.list (trL T)), sd (.list (trL T)), sd (.list (th.map rowD)), x4, sd (nD a), sd (nD b), sd (nD d), sd (rowD (rowN T g v)), sd (rowD g), sd R, x11, x12, x13] = _
      simp only [Dl.tOrF, Dl.tAndF, Dl.tNotF, Dl.tOf, Dl.eOp, Dl.eUn, Dl.eC, Dl.eVar, Dl.eCall, Dl.eMeth, Dl.eTup, Dl.eLst, Dl.eIf, Dl.eAndV, Dl.eOrV, Dl.eNotV, Dl.aCons, Dl.aNil, List.getElem?_cons_zero, List.getElem?_cons_succ, Dl.bindN_ok, Dl.Sl.d_dat, Dl.Sl.d_own, Dl.retI, Dl.retB, Dl.isB, if_true, if_false, Bool.false_eq_true, Dl.oOfN_ok, List.set_cons_zero, List.set_cons_succ, Dl.fixs, Dl.Env.fix, Dl.oSet, Dl.oRet, Dl.oMutS, Dl.mMut, m1, eIndex, x1, en]
  · rw [hfn r hr] at m1
    refine seqN (ρ' := [sd (scr ns), sd (.list (trL T)), sd (.list (trL T)), sd (.list (th.map rowD)), x4, sd (nD a), sd (nD b), sd (nD d), sd (rowD r), sd (rowD g), sd R, x11, x12, x13]) (fixN (ifN_f ?_ rfl)) (fixN ?_)
    · show tOf _ [sd (scr ns), sd (.list (trL T)), sd (.list (trL T)), sd (.list (th.map rowD)), x4, sd (nD a), sd (nD b), sd (nD d), sd (rowD r), sd (rowD g), sd R, x11, x12, x13] = _
      simp only [Dl.tOrF, Dl.tAndF, Dl.tNotF, Dl.tOf, Dl.eOp, Dl.eUn, Dl.eC, Dl.eVar, Dl.eCall, Dl.eMeth, Dl.eTup, Dl.eLst, Dl.eIf, Dl.eAndV, Dl.eOrV, Dl.eNotV, Dl.aCons, Dl.aNil, List.getElem?_cons_zero, List.getElem?_cons_succ, Dl.bindN_ok, Dl.Sl.d_dat, Dl.Sl.d_own, Dl.retI, Dl.retB, Dl.isB, if_true, if_false, Bool.false_eq_true, Dl.oOfN_ok, List.set_cons_zero, List.set_cons_succ, Dl.fixs, Dl.Env.fix, Dl.oSet, Dl.oRet, Dl.oMutS, Dl.mMut, i1, decide_eq_false hr]
    · show oRet _ [sd (scr ns), sd (.list (trL T)), sd (.list (trL T)), sd (.list (th.map rowD)), x4, sd (nD a), sd (nD b), sd (nD d), sd (rowD r), sd (rowD g), sd R, x11, x12, x13] = _
      simp only [Dl.tOrF, Dl.tAndF, Dl.tNotF, Dl.tOf, Dl.eOp, Dl.eUn, Dl.eC, Dl.eVar, Dl.eCall, Dl.eMeth, Dl.eTup, Dl.eLst, Dl.eIf, Dl.eAndV, Dl.eOrV, Dl.eNotV, Dl.aCons, Dl.aNil, List.getElem?_cons_zero, List.getElem?_cons_succ, Dl.bindN_ok, Dl.Sl.d_dat, Dl.Sl.d_own, Dl.retI, Dl.retB, Dl.isB, if_true, if_false, Bool.false_eq_true, Dl.oOfN_ok, List.set_cons_zero, List.set_cons_succ, Dl.fixs, Dl.Env.fix, Dl.oSet, Dl.oRet, Dl.oMutS, Dl.mMut, m1, gIsN_n, isNoneD]
theorem good (ns : List Int) : f_law_k23 [scr ns] = .ok (.dat (.bool true)) := by
  obtain ⟨g, left, L, rows, g1, g2, g3, G, hr, hrl, e0⟩ := rows_spec3 ns
  have hro : ∀ r ∈ rows, r.length = g.length ∧ plainR r := fun r h => ⟨G.len r (hr r h), G.plain r (hr r h)⟩
  have U1 : ∀ r ∈ srtSet rows, r.length = g.length := fun r h => (hro r (srtSet_mem.1 h)).1
  have Ul := srtSet_len rows
  obtain ⟨S, C, hc⟩ := changes_spec (srtSet rows) g (by omega) U1 (by omega)
  have hSl := C.len
  have hb := is_borne_spec rows g .none (grown_barred G g3 (by omega) hr (by omega))
  have hu := unlike_rows_spec (n := g.length) (rows := rows) (fun r h => ⟨(hro r h).1, fun x hx => by have := (hro r h).2 x hx; omega⟩) g1 (by omega)
  have t1 : f_tree_of [.list (rows.map rowD), rowD g] = .ok (.own (.list (trL (treeT S)))) := tree_spec rows (srtSet rows) g hb hu U1 (by omega) (by omega) C hc
  have ok := treeT_ok C
  obtain ⟨T2, ok2, t2⟩ := by_hand_spec ns g.length (by omega)
  have t2' : f_law_by_hand [scr ns, .int (g.length : Int)] = .ok (.own (.list (trL T2))) := t2
  have hgl : gLen [rowD g] = retI (g.length : Int) := by rw [gLen_t, List.length_map]
  have q4 := cell_spec ns 4 (by omega)
  generalize cellAt ns (Int.toNat 4) = c4 at q4
  have m2 : gMod (.int c4) (.int 2) = retI (c4 % 2) := gMod_ii (by decide)
  unfold f_law_k23 o_law_k23
  refine fnO_rt rfl ?_
  show oSeq _ _ [sd (scr ns), none, none, none, none, none, none, none, none, none, none, none, none, none] = _
  refine seqN (ρ' := [sd (scr ns), none, none, none, none, none, none, none, none, sd (rowD g), sd (.list (rows.map rowD)), none, none, none]) ?_ ?_
  · simp only [oAsg, eCall, aCons, aNil, eC, eVar, List.getElem?_cons_zero, bindN_ok, Sl.d_dat, e0, oOfN_ok]
    rfl
  refine seqN (ρ' := [sd (scr ns), so (.list (trL (treeT S))), none, none, none, none, none, none, none, sd (rowD g), sd (.list (rows.map rowD)), none, none, none]) (by simp only [Dl.tOrF, Dl.tAndF, Dl.tNotF, Dl.tOf, Dl.eOp, Dl.eUn, Dl.eC, Dl.eVar, Dl.eCall, Dl.eMeth, Dl.eTup, Dl.eLst, Dl.eIf, Dl.eAndV, Dl.eOrV, Dl.eNotV, Dl.aCons, Dl.aNil, List.getElem?_cons_zero, List.getElem?_cons_succ, Dl.bindN_ok, Dl.Sl.d_dat, Dl.Sl.d_own, Dl.retI, Dl.retB, Dl.isB, if_true, if_false, Bool.false_eq_true, Dl.oOfN_ok, List.set_cons_zero, List.set_cons_succ, Dl.fixs, Dl.Env.fix, Dl.oSet, Dl.oRet, Dl.oMutS, Dl.mMut, gList_l, t1]) ?_
  by_cases h : c4 % 2 = 1
  · refine seqN (ρ' := [sd (scr ns), so (.list (trL T2)), none, none, none, none, none, none, none, sd (rowD g), sd (.list (rows.map rowD)), none, none, none]) (ifN_t (by simp only [Dl.tOrF, Dl.tAndF, Dl.tNotF, Dl.tOf, Dl.eOp, Dl.eUn, Dl.eC, Dl.eVar, Dl.eCall, Dl.eMeth, Dl.eTup, Dl.eLst, Dl.eIf, Dl.eAndV, Dl.eOrV, Dl.eNotV, Dl.aCons, Dl.aNil, List.getElem?_cons_zero, List.getElem?_cons_succ, Dl.bindN_ok, Dl.Sl.d_dat, Dl.Sl.d_own, Dl.retI, Dl.retB, Dl.isB, if_true, if_false, Bool.false_eq_true, Dl.oOfN_ok, List.set_cons_zero, List.set_cons_succ, Dl.fixs, Dl.Env.fix, Dl.oSet, Dl.oRet, Dl.oMutS, Dl.mMut, q4, m2, gEq_ii, decide_eq_true h]) ?_) (core23 ns T2 g _ ok2 g3 g2)
    simp only [Dl.tOrF, Dl.tAndF, Dl.tNotF, Dl.tOf, Dl.eOp, Dl.eUn, Dl.eC, Dl.eVar, Dl.eCall, Dl.eMeth, Dl.eTup, Dl.eLst, Dl.eIf, Dl.eAndV, Dl.eOrV, Dl.eNotV, Dl.aCons, Dl.aNil, List.getElem?_cons_zero, List.getElem?_cons_succ, Dl.bindN_ok, Dl.Sl.d_dat, Dl.Sl.d_own, Dl.retI, Dl.retB, Dl.isB, if_true, if_false, Bool.false_eq_true, Dl.oOfN_ok, List.set_cons_zero, List.set_cons_succ, Dl.fixs, Dl.Env.fix, Dl.oSet, Dl.oRet, Dl.oMutS, Dl.mMut, hgl, t2']
  · exact seqN (ρ' := [sd (scr ns), so (.list (trL (treeT S))), none, none, none, none, none, none, none, sd (rowD g), sd (.list (rows.map rowD)), none, none, none]) (ifN_f (by simp only [Dl.tOrF, Dl.tAndF, Dl.tNotF, Dl.tOf, Dl.eOp, Dl.eUn, Dl.eC, Dl.eVar, Dl.eCall, Dl.eMeth, Dl.eTup, Dl.eLst, Dl.eIf, Dl.eAndV, Dl.eOrV, Dl.eNotV, Dl.aCons, Dl.aNil, List.getElem?_cons_zero, List.getElem?_cons_succ, Dl.bindN_ok, Dl.Sl.d_dat, Dl.Sl.d_own, Dl.retI, Dl.retB, Dl.isB, if_true, if_false, Bool.false_eq_true, Dl.oOfN_ok, List.set_cons_zero, List.set_cons_succ, Dl.fixs, Dl.Env.fix, Dl.oSet, Dl.oRet, Dl.oMutS, Dl.mMut, q4, m2, gEq_ii, decide_eq_false h]) rfl) (core23 ns (treeT S) g _ ok g3 g2)
end Dl
namespace Dl
open PySem PySem.Spec PyProof.Rows L2
def top (i : Nat) : Stmt := PySem.Challenge.pw_unmix_k23_nodes_and_ways_between.main.body.getD i (.Pass ⟨0, 0, 0, 0⟩)
abbrev dd (p : Str × Option Str) (x q : Str) (s : Stmt) : He.DefD := ⟨p, x, q, defArgs s, defBody s, defScope s, [], []⟩
abbrev s_row_at : Stmt := (top 21)
abbrev N_row_at : List Str := ["tree", "founder", "node", "turned", "at", "mark"]
theorem sc_row_at : FnScope N_row_at ["tree", "founder", "node"] (defScope s_row_at) := ⟨rfl, rfl, rfl, by decide +kernel, rfl, by decide +kernel, by decide +kernel⟩
abbrev s_node_of : Stmt := (top 22)
abbrev N_node_of : List Str := ["tree", "founder", "row", "node"]
theorem sc_node_of : FnScope N_node_of ["tree", "founder", "row"] (defScope s_node_of) := ⟨rfl, rfl, rfl, by decide +kernel, rfl, by decide +kernel, by decide +kernel⟩
abbrev s_law_row : Stmt := (top 27)
abbrev N_law_row : List Str := ["_law_cell_here", "_law_many", "_law_size", "_law_row_here", "_law_seed", "_law_k", "_law_rest", "_law_mixed"]
theorem sc_law_row : FnScope N_law_row ["_law_cell_here", "_law_many", "_law_size"] (defScope s_law_row) := ⟨rfl, rfl, rfl, by decide +kernel, rfl, by decide +kernel, by decide +kernel⟩
abbrev s_law_cell : Stmt := (top 26)
abbrev N_law_cell : List Str := ["_law_script", "_law_at"]
theorem sc_law_cell : FnScope N_law_cell ["_law_script", "_law_at"] (defScope s_law_cell) := ⟨rfl, rfl, rfl, by decide +kernel, rfl, by decide +kernel, by decide +kernel⟩
abbrev s_depth_of : Stmt := (top 23)
abbrev N_depth_of : List Str := ["tree", "node", "many"]
theorem sc_depth_of : FnScope N_depth_of ["tree", "node"] (defScope s_depth_of) := ⟨rfl, rfl, rfl, by decide +kernel, rfl, by decide +kernel, by decide +kernel⟩
abbrev s_between : Stmt := (top 24)
abbrev N_between : List Str := ["tree", "one", "other", "above", "node"]
theorem sc_between : FnScope N_between ["tree", "one", "other"] (defScope s_between) := ⟨rfl, rfl, rfl, by decide +kernel, rfl, by decide +kernel, by decide +kernel⟩
abbrev s_law_unlike : Stmt := (top 35)
abbrev N_law_unlike : List Str := ["_law_one", "_law_two", "_law_at"]
theorem sc_law_unlike : FnScope N_law_unlike ["_law_one", "_law_two"] (defScope s_law_unlike) := ⟨rfl, rfl, rfl, by decide +kernel, rfl, by decide +kernel, by decide +kernel⟩
abbrev s_law_whole : Stmt := (top 28)
abbrev N_law_whole : List Str := ["_law_found"]
theorem sc_law_whole : FnScope N_law_whole ["_law_found"] (defScope s_law_whole) := ⟨rfl, rfl, rfl, by decide +kernel, rfl, by decide +kernel, by decide +kernel⟩
abbrev s_law_is_row : Stmt := (top 29)
abbrev N_law_is_row : List Str := ["_law_found", "_law_many", "_law_most", "_law_mark"]
theorem sc_law_is_row : FnScope N_law_is_row ["_law_found", "_law_many", "_law_most"] (defScope s_law_is_row) := ⟨rfl, rfl, rfl, by decide +kernel, rfl, by decide +kernel, by decide +kernel⟩
abbrev s_law_node_row : Stmt := (top 34)
abbrev N_law_node_row : List Str := ["_law_tree", "_law_base", "_law_node", "_law_row_here", "_law_mark"]
theorem sc_law_node_row : FnScope N_law_node_row ["_law_tree", "_law_base", "_law_node"] (defScope s_law_node_row) := ⟨rfl, rfl, rfl, by decide +kernel, rfl, by decide +kernel, by decide +kernel⟩
abbrev s_law_is_tree : Stmt := (top 33)
abbrev N_law_is_tree : List Str := ["_law_tree", "_law_many", "_law_used", "_law_node", "_law_k", "_law_mark"]
theorem sc_law_is_tree : FnScope N_law_is_tree ["_law_tree", "_law_many"] (defScope s_law_is_tree) := ⟨rfl, rfl, rfl, by decide +kernel, rfl, by decide +kernel, by decide +kernel⟩
abbrev s_law_by_hand : Stmt := (top 36)
abbrev N_law_by_hand : List Str := ["_law_script", "_law_many", "_law_tree", "_law_left", "_law_step", "_law_mark"]
theorem sc_law_by_hand : FnScope N_law_by_hand ["_law_script", "_law_many"] (defScope s_law_by_hand) := ⟨rfl, rfl, rfl, by decide +kernel, rfl, by decide +kernel, by decide +kernel⟩
abbrev s_parent_of : Stmt := (top 19)
abbrev N_parent_of : List Str := ["groups", "at", "k", "row"]
theorem sc_parent_of : FnScope N_parent_of ["groups", "at"] (defScope s_parent_of) := ⟨rfl, rfl, rfl, by decide +kernel, rfl, by decide +kernel, by decide +kernel⟩
abbrev s_bearers : Stmt := (top 17)
abbrev N_bearers : List Str := ["rows", "founder", "mark", "k", "row"]
theorem sc_bearers : FnScope N_bearers ["rows", "founder", "mark"] (defScope s_bearers) := ⟨rfl, rfl, rfl, by decide +kernel, rfl, by decide +kernel, by decide +kernel⟩
abbrev s_changes : Stmt := (top 18)
abbrev N_changes : List Str := ["rows", "founder", "by", "mark", "order", "who", "size", "marks"]
theorem sc_changes : FnScope N_changes ["rows", "founder"] (defScope s_changes) := ⟨rfl, rfl, rfl, by decide +kernel, rfl, by decide +kernel, by decide +kernel⟩
abbrev s_unlike_rows : Stmt := (top 16)
abbrev N_unlike_rows : List Str := ["rows"]
theorem sc_unlike_rows : FnScope N_unlike_rows ["rows"] (defScope s_unlike_rows) := ⟨rfl, rfl, rfl, by decide +kernel, rfl, by decide +kernel, by decide +kernel⟩
abbrev s_pairs_of : Stmt := (top 8)
abbrev N_pairs_of : List Str := ["marks", "found", "k", "one", "other"]
theorem sc_pairs_of : FnScope N_pairs_of ["marks"] (defScope s_pairs_of) := ⟨rfl, rfl, rfl, by decide +kernel, rfl, by decide +kernel, by decide +kernel⟩
abbrev s_has_all : Stmt := (top 12)
abbrev N_has_all : List Str := ["by", "pair"]
theorem sc_has_all : FnScope N_has_all ["by"] (defScope s_has_all) := ⟨rfl, rfl, rfl, by decide +kernel, rfl, by decide +kernel, by decide +kernel⟩
abbrev s_ways_of_mark : Stmt := (top 9)
abbrev N_ways_of_mark : List Str := ["mark"]
theorem sc_ways_of_mark : FnScope N_ways_of_mark ["mark"] (defScope s_ways_of_mark) := ⟨rfl, rfl, rfl, by decide +kernel, rfl, by decide +kernel, by decide +kernel⟩
abbrev s_shows : Stmt := (top 10)
abbrev N_shows : List Str := ["sight", "one", "other", "found", "a", "b"]
theorem sc_shows : FnScope N_shows ["sight", "one", "other"] (defScope s_shows) := ⟨rfl, rfl, rfl, by decide +kernel, rfl, by decide +kernel, by decide +kernel⟩
abbrev s_shown_by : Stmt := (top 11)
abbrev N_shown_by : List Str := ["folk", "one", "other", "by", "name", "sight", "pair"]
theorem sc_shown_by : FnScope N_shown_by ["folk", "one", "other"] (defScope s_shown_by) := ⟨rfl, rfl, rfl, by decide +kernel, rfl, by decide +kernel, by decide +kernel⟩
abbrev s_changed_mark : Stmt := (top 4)
abbrev N_changed_mark : List Str := ["mark", "ground"]
theorem sc_changed_mark : FnScope N_changed_mark ["mark", "ground"] (defScope s_changed_mark) := ⟨rfl, rfl, rfl, by decide +kernel, rfl, by decide +kernel, by decide +kernel⟩
abbrev s_against : Stmt := (top 5)
abbrev N_against : List Str := ["row", "founder", "mark", "ground"]
theorem sc_against : FnScope N_against ["row", "founder"] (defScope s_against) := ⟨rfl, rfl, rfl, by decide +kernel, rfl, by decide +kernel, by decide +kernel⟩
abbrev s_barred_at : Stmt := (top 13)
abbrev N_barred_at : List Str := ["rows", "founder", "told", "one", "other", "row"]
theorem sc_barred_at : FnScope N_barred_at ["rows", "founder"] (defScope s_barred_at) := ⟨rfl, rfl, rfl, by decide +kernel, rfl, by decide +kernel, by decide +kernel⟩
abbrev s_is_borne : Stmt := (top 14)
abbrev N_is_borne : List Str := ["rows", "founder"]
theorem sc_is_borne : FnScope N_is_borne ["rows", "founder"] (defScope s_is_borne) := ⟨rfl, rfl, rfl, by decide +kernel, rfl, by decide +kernel, by decide +kernel⟩
abbrev s_tree_of : Stmt := (top 20)
abbrev N_tree_of : List Str := ["rows", "founder", "groups", "nodes", "at"]
theorem sc_tree_of : FnScope N_tree_of ["rows", "founder"] (defScope s_tree_of) := ⟨rfl, rfl, rfl, by decide +kernel, rfl, by decide +kernel, by decide +kernel⟩
abbrev s_law_flip : Stmt := (top 30)
abbrev N_law_flip : List Str := ["_law_row_here", "_law_at"]
theorem sc_law_flip : FnScope N_law_flip ["_law_row_here", "_law_at"] (defScope s_law_flip) := ⟨rfl, rfl, rfl, by decide +kernel, rfl, by decide +kernel, by decide +kernel⟩
abbrev s_law_grown : Stmt := (top 31)
abbrev N_law_grown : List Str := ["_law_founder", "_law_cell_here", "_law_rows_here", "_law_left", "_law_step", "_law_mark"]
theorem sc_law_grown : FnScope N_law_grown ["_law_founder", "_law_cell_here"] (defScope s_law_grown) := ⟨rfl, rfl, rfl, by decide +kernel, rfl, by decide +kernel, by decide +kernel⟩
abbrev s_law_rows_v3 : Stmt := (top 32)
abbrev N_law_rows_v3 : List Str := ["_law_script", "_law_at", "_law_pick", "_law_many", "_law_base", "_law_grown_here", "_law_steps", "_law_rows_here", "_law_step"]
theorem sc_law_rows_v3 : FnScope N_law_rows_v3 ["_law_script", "_law_at"] (defScope s_law_rows_v3) := ⟨rfl, rfl, rfl, by decide +kernel, rfl, by decide +kernel, by decide +kernel⟩
abbrev s_law_k23 : Stmt := (top 37)
abbrev N_law_k23 : List Str := ["_law_script", "_law_tree", "_law_handed", "_law_there", "_law_node", "_law_one", "_law_two", "_law_far", "_law_drawn", "_law_base", "_law_rows_here", "_law_found", "_law_told", "_law_deep"]
theorem sc_law_k23 : FnScope N_law_k23 ["_law_script"] (defScope s_law_k23) := ⟨rfl, rfl, rfl, by decide +kernel, rfl, by decide +kernel, by decide +kernel⟩
def fns0 : List He.DefD := [dd ("row_at", none) "row_at" "row_at" s_row_at, dd ("node_of", none) "node_of" "node_of" s_node_of, dd ("_law_row", none) "_law_row" "_law_row" s_law_row, dd ("_law_cell", none) "_law_cell" "_law_cell" s_law_cell, dd ("depth_of", none) "depth_of" "depth_of" s_depth_of, dd ("between", none) "between" "between" s_between, dd ("_law_unlike", none) "_law_unlike" "_law_unlike" s_law_unlike, dd ("_law_whole", none) "_law_whole" "_law_whole" s_law_whole, dd ("_law_is_row", none) "_law_is_row" "_law_is_row" s_law_is_row, dd ("_law_node_row", none) "_law_node_row" "_law_node_row" s_law_node_row, dd ("_law_is_tree", none) "_law_is_tree" "_law_is_tree" s_law_is_tree, dd ("_law_by_hand", none) "_law_by_hand" "_law_by_hand" s_law_by_hand, dd ("parent_of", none) "parent_of" "parent_of" s_parent_of, dd ("bearers", none) "bearers" "bearers" s_bearers, dd ("changes", none) "changes" "changes" s_changes, dd ("unlike_rows", none) "unlike_rows" "unlike_rows" s_unlike_rows, dd ("pairs_of", none) "pairs_of" "pairs_of" s_pairs_of, dd ("has_all", none) "has_all" "has_all" s_has_all, dd ("ways_of_mark", none) "ways_of_mark" "ways_of_mark" s_ways_of_mark, dd ("shows", none) "shows" "shows" s_shows]
def fns1 : List He.DefD := [dd ("shown_by", none) "shown_by" "shown_by" s_shown_by, dd ("changed_mark", none) "changed_mark" "changed_mark" s_changed_mark, dd ("against", none) "against" "against" s_against, dd ("barred_at", none) "barred_at" "barred_at" s_barred_at, dd ("is_borne", none) "is_borne" "is_borne" s_is_borne, dd ("tree_of", none) "tree_of" "tree_of" s_tree_of, dd ("_law_flip", none) "_law_flip" "_law_flip" s_law_flip, dd ("_law_grown", none) "_law_grown" "_law_grown" s_law_grown, dd ("_law_rows", none) "_law_rows" "_law_rows" s_law_rows_v3, dd ("law", none) "law" "law" s_law_k23]
def fns : List He.DefD := fns0 ++ (fns1)
def fcs0 : List He.Fa := [.free "len", .free "range", .free "enumerate", .free "tuple", .glo "row_at", .glo "node_of", .glo "_law_row", .glo "_law_cell", .glo "depth_of", .glo "between", .glo "_law_unlike", .free "isinstance", .free "bool", .free "int", .glo "_law_whole", .glo "_law_is_row", .free "list", .glo "_law_node_row", .free "sorted", .glo "_law_is_tree"]
def fcs1 : List He.Fa := [.glo "_law_by_hand", .free "reversed", .free "all", .glo "parent_of", .glo "bearers", .glo "changes", .free "set", .glo "unlike_rows", .glo "pairs_of", .glo "has_all", .glo "ways_of_mark", .glo "shows", .glo "shown_by", .free "zip", .glo "changed_mark", .glo "against", .glo "barred_at", .glo "is_borne", .exc "NoTree", .glo "NoTree"]
def fcs2 : List He.Fa := [.glo "tree_of", .glo "_law_flip", .glo "_law_grown", .glo "_law_rows", .glo "law"]
def fcs : List He.Fa := fcs0 ++ (fcs1 ++ (fcs2))
def lnames0 : List PySem.Str := ["MixError", "NoTree", "changed_mark", "against", "BARRING", "pairs_of", "ways_of_mark", "shows", "shown_by", "has_all", "barred_at", "is_borne", "unlike_rows", "bearers", "changes", "parent_of", "tree_of", "row_at", "node_of", "depth_of"]
def lnames1 : List PySem.Str := ["between", "_law_cell", "_law_row", "_law_whole", "_law_is_row", "_law_flip", "_law_grown", "_law_rows", "_law_is_tree", "_law_node_row", "_law_unlike", "_law_by_hand"]
def lnames : List PySem.Str := lnames0 ++ (lnames1)
def tbs : List He.Tab := []
/-- what the top leaves -/
def exC (K : PySem.W.Frag) : Bool := conB K "BARRING" (fz [(fz [(.int 0), (.int 1)]), (fz [(.int 1), (.int 0)]), (fz [(.int 1), (.int 1)])]) && (true)
structure Tx (w : World) (K : PySem.W.Frag) (mg : Str → Option Value) : Prop where
  tab : He.SaysT fcs fns tbs w K
  con : exC K = true
  ok : ∃ h : Heap, K.In h ∧ h.Ns mainGlobals mg
variable {P : Program} {w : World} {K : PySem.W.Frag} {mg : Str → Option Value} {base : Heap}
theorem Tx.says (T : Tx w K mg) : He.SaysD fcs fns K := T.tab.d
theorem Tx.free_len (T : Tx w K mg) : mg "len" = none := let ⟨_, X, G⟩ := T.ok; He.free_ok X G (T.says.fact 0 rfl)
theorem Tx.free_range (T : Tx w K mg) : mg "range" = none := let ⟨_, X, G⟩ := T.ok; He.free_ok X G (T.says.fact 1 rfl)
theorem Tx.free_enumerate (T : Tx w K mg) : mg "enumerate" = none := let ⟨_, X, G⟩ := T.ok; He.free_ok X G (T.says.fact 2 rfl)
theorem Tx.free_tuple (T : Tx w K mg) : mg "tuple" = none := let ⟨_, X, G⟩ := T.ok; He.free_ok X G (T.says.fact 3 rfl)
theorem Tx.glo_row_at (T : Tx w K mg) : mg "row_at" = some (.ref (He.ga K "row_at")) := let ⟨_, X, G⟩ := T.ok; He.glo_ok X G (T.says.fact 4 rfl)
theorem Tx.glo_node_of (T : Tx w K mg) : mg "node_of" = some (.ref (He.ga K "node_of")) := let ⟨_, X, G⟩ := T.ok; He.glo_ok X G (T.says.fact 5 rfl)
theorem Tx.glo_law_row (T : Tx w K mg) : mg "_law_row" = some (.ref (He.ga K "_law_row")) := let ⟨_, X, G⟩ := T.ok; He.glo_ok X G (T.says.fact 6 rfl)
theorem Tx.glo_law_cell (T : Tx w K mg) : mg "_law_cell" = some (.ref (He.ga K "_law_cell")) := let ⟨_, X, G⟩ := T.ok; He.glo_ok X G (T.says.fact 7 rfl)
theorem Tx.glo_depth_of (T : Tx w K mg) : mg "depth_of" = some (.ref (He.ga K "depth_of")) := let ⟨_, X, G⟩ := T.ok; He.glo_ok X G (T.says.fact 8 rfl)
theorem Tx.glo_between (T : Tx w K mg) : mg "between" = some (.ref (He.ga K "between")) := let ⟨_, X, G⟩ := T.ok; He.glo_ok X G (T.says.fact 9 rfl)
theorem Tx.glo_law_unlike (T : Tx w K mg) : mg "_law_unlike" = some (.ref (He.ga K "_law_unlike")) := let ⟨_, X, G⟩ := T.ok; He.glo_ok X G (T.says.fact 10 rfl)
theorem Tx.free_isinstance (T : Tx w K mg) : mg "isinstance" = none := let ⟨_, X, G⟩ := T.ok; He.free_ok X G (T.says.fact 11 rfl)
theorem Tx.free_bool (T : Tx w K mg) : mg "bool" = none := let ⟨_, X, G⟩ := T.ok; He.free_ok X G (T.says.fact 12 rfl)
theorem Tx.free_int (T : Tx w K mg) : mg "int" = none := let ⟨_, X, G⟩ := T.ok; He.free_ok X G (T.says.fact 13 rfl)
theorem Tx.glo_law_whole (T : Tx w K mg) : mg "_law_whole" = some (.ref (He.ga K "_law_whole")) := let ⟨_, X, G⟩ := T.ok; He.glo_ok X G (T.says.fact 14 rfl)
theorem Tx.glo_law_is_row (T : Tx w K mg) : mg "_law_is_row" = some (.ref (He.ga K "_law_is_row")) := let ⟨_, X, G⟩ := T.ok; He.glo_ok X G (T.says.fact 15 rfl)
theorem Tx.free_list (T : Tx w K mg) : mg "list" = none := let ⟨_, X, G⟩ := T.ok; He.free_ok X G (T.says.fact 16 rfl)
theorem Tx.glo_law_node_row (T : Tx w K mg) : mg "_law_node_row" = some (.ref (He.ga K "_law_node_row")) := let ⟨_, X, G⟩ := T.ok; He.glo_ok X G (T.says.fact 17 rfl)
theorem Tx.free_sorted (T : Tx w K mg) : mg "sorted" = none := let ⟨_, X, G⟩ := T.ok; He.free_ok X G (T.says.fact 18 rfl)
theorem Tx.glo_law_is_tree (T : Tx w K mg) : mg "_law_is_tree" = some (.ref (He.ga K "_law_is_tree")) := let ⟨_, X, G⟩ := T.ok; He.glo_ok X G (T.says.fact 19 rfl)
theorem Tx.glo_law_by_hand (T : Tx w K mg) : mg "_law_by_hand" = some (.ref (He.ga K "_law_by_hand")) := let ⟨_, X, G⟩ := T.ok; He.glo_ok X G (T.says.fact 20 rfl)
theorem Tx.free_reversed (T : Tx w K mg) : mg "reversed" = none := let ⟨_, X, G⟩ := T.ok; He.free_ok X G (T.says.fact 21 rfl)
theorem Tx.free_all (T : Tx w K mg) : mg "all" = none := let ⟨_, X, G⟩ := T.ok; He.free_ok X G (T.says.fact 22 rfl)
theorem Tx.glo_parent_of (T : Tx w K mg) : mg "parent_of" = some (.ref (He.ga K "parent_of")) := let ⟨_, X, G⟩ := T.ok; He.glo_ok X G (T.says.fact 23 rfl)
theorem Tx.glo_bearers (T : Tx w K mg) : mg "bearers" = some (.ref (He.ga K "bearers")) := let ⟨_, X, G⟩ := T.ok; He.glo_ok X G (T.says.fact 24 rfl)
theorem Tx.glo_changes (T : Tx w K mg) : mg "changes" = some (.ref (He.ga K "changes")) := let ⟨_, X, G⟩ := T.ok; He.glo_ok X G (T.says.fact 25 rfl)
theorem Tx.free_set (T : Tx w K mg) : mg "set" = none := let ⟨_, X, G⟩ := T.ok; He.free_ok X G (T.says.fact 26 rfl)
theorem Tx.glo_unlike_rows (T : Tx w K mg) : mg "unlike_rows" = some (.ref (He.ga K "unlike_rows")) := let ⟨_, X, G⟩ := T.ok; He.glo_ok X G (T.says.fact 27 rfl)
theorem Tx.glo_pairs_of (T : Tx w K mg) : mg "pairs_of" = some (.ref (He.ga K "pairs_of")) := let ⟨_, X, G⟩ := T.ok; He.glo_ok X G (T.says.fact 28 rfl)
theorem Tx.glo_has_all (T : Tx w K mg) : mg "has_all" = some (.ref (He.ga K "has_all")) := let ⟨_, X, G⟩ := T.ok; He.glo_ok X G (T.says.fact 29 rfl)
theorem Tx.glo_ways_of_mark (T : Tx w K mg) : mg "ways_of_mark" = some (.ref (He.ga K "ways_of_mark")) := let ⟨_, X, G⟩ := T.ok; He.glo_ok X G (T.says.fact 30 rfl)
theorem Tx.glo_shows (T : Tx w K mg) : mg "shows" = some (.ref (He.ga K "shows")) := let ⟨_, X, G⟩ := T.ok; He.glo_ok X G (T.says.fact 31 rfl)
theorem Tx.glo_shown_by (T : Tx w K mg) : mg "shown_by" = some (.ref (He.ga K "shown_by")) := let ⟨_, X, G⟩ := T.ok; He.glo_ok X G (T.says.fact 32 rfl)
theorem Tx.free_zip (T : Tx w K mg) : mg "zip" = none := let ⟨_, X, G⟩ := T.ok; He.free_ok X G (T.says.fact 33 rfl)
theorem Tx.glo_changed_mark (T : Tx w K mg) : mg "changed_mark" = some (.ref (He.ga K "changed_mark")) := let ⟨_, X, G⟩ := T.ok; He.glo_ok X G (T.says.fact 34 rfl)
theorem Tx.glo_against (T : Tx w K mg) : mg "against" = some (.ref (He.ga K "against")) := let ⟨_, X, G⟩ := T.ok; He.glo_ok X G (T.says.fact 35 rfl)
theorem Tx.glo_barred_at (T : Tx w K mg) : mg "barred_at" = some (.ref (He.ga K "barred_at")) := let ⟨_, X, G⟩ := T.ok; He.glo_ok X G (T.says.fact 36 rfl)
theorem Tx.glo_is_borne (T : Tx w K mg) : mg "is_borne" = some (.ref (He.ga K "is_borne")) := let ⟨_, X, G⟩ := T.ok; He.glo_ok X G (T.says.fact 37 rfl)
theorem Tx.glo_NoTree (T : Tx w K mg) : mg "NoTree" = some (.ref (He.ga K "NoTree")) := let ⟨_, X, G⟩ := T.ok; He.glo_ok X G (T.says.fact 39 rfl)
theorem Tx.glo_tree_of (T : Tx w K mg) : mg "tree_of" = some (.ref (He.ga K "tree_of")) := let ⟨_, X, G⟩ := T.ok; He.glo_ok X G (T.says.fact 40 rfl)
theorem Tx.glo_law_flip (T : Tx w K mg) : mg "_law_flip" = some (.ref (He.ga K "_law_flip")) := let ⟨_, X, G⟩ := T.ok; He.glo_ok X G (T.says.fact 41 rfl)
theorem Tx.glo_law_grown (T : Tx w K mg) : mg "_law_grown" = some (.ref (He.ga K "_law_grown")) := let ⟨_, X, G⟩ := T.ok; He.glo_ok X G (T.says.fact 42 rfl)
theorem Tx.glo_law_rows (T : Tx w K mg) : mg "_law_rows" = some (.ref (He.ga K "_law_rows")) := let ⟨_, X, G⟩ := T.ok; He.glo_ok X G (T.says.fact 43 rfl)
theorem Tx.glo_law (T : Tx w K mg) : mg "law" = some (.ref (He.ga K "law")) := let ⟨_, X, G⟩ := T.ok; He.glo_ok X G (T.says.fact 44 rfl)
theorem Tx.excw_NoTree (T : Tx w K mg) : PySem.W.excIn K (He.ga K "NoTree") He.veBase "ValueError.__new__" = true ∧ PySem.W.keepIn K (.ref (He.ga K "NoTree")) = true ∧ PySem.W.subIn K (.ref (He.ga K "NoTree")) (.type "BaseException") = some true ∧ PySem.W.typeIn K (.ref (He.ga K "NoTree")) = some (.type "type") := He.exc_ok (T.says.fact 38 rfl)
theorem Tx.exc_NoTree {X : Cx} (T : Tx w X.K X.mg) : ExcOk X "NoTree" := ⟨T.excw_NoTree.1, T.excw_NoTree.2.1, raises_own T.excw_NoTree.2.2.1 T.excw_NoTree.2.2.2, T.glo_NoTree⟩
theorem Tx.con_BARRING (T : Tx w K mg) : IsCon K mg "BARRING" (fz [(fz [(.int 0), (.int 1)]), (fz [(.int 1), (.int 0)]), (fz [(.int 1), (.int 1)])]) := let ⟨_, X, G⟩ := T.ok; con_ok X G (Bool.and_eq_true_iff.mp T.con).1
theorem room2 {k : Nat} {A : Around} (hr : Room k A) : A.units + 1 < cLine := by have := hr.un; omega
theorem room64 {k : Nat} {A : Around} (hr : Room k A) : A.units + 64 < cLine := by have := hr.un; omega
theorem room65 {k : Nat} {A : Around} (hr : Room k A) : A.units + 65 < cLine := by have := hr.un; omega
theorem kn_row_at (T : Tx w K mg) : Knows P w K mg base "row_at" 1 ["tree", "founder", "node"] f_row_at :=
  kn_mk (st := s_row_at) (T.says.def_ 0 rfl) sc_row_at T.glo_row_at (fun _ _ _ _ _ _ us hl => match us, hl with | [_, _, _], _ => rfl) fun cdv A outer s H E hr hx => by
  have hp := owns_cx (P := P) (w := w) (K := K) (mg := mg) (base := base) (N := N_row_at) (qual := "row_at") (scope := defScope s_row_at) (f := (He.ga K "row_at")) (cdv := cdv) (A := A) (outer := outer) (s := s) (H := H) (E := E)
  have tk := takes_cx (P := P) (w := w) (K := K) (mg := mg) (base := base) (N := N_row_at) (qual := "row_at") (scope := defScope s_row_at) (f := (He.ga K "row_at")) (cdv := cdv) (A := A) (outer := outer) (s := s) (H := H) (E := E)
  exact (dss_cons (ds_set (i := 3) sc_row_at.nd rfl (by first | exact Or.inl rfl | exact Or.inr rfl) (de_lst da_nil))
    (dss_cons (ds_while 100000 hp (dt_cmp (op_neA hr.units) od_ne (de_var 2 (pv 2)) de_int (nomark _)) (dss_cons (ds_mut (dm_mut PySem.F.slot_list_extend PySem.F.type_list_extend mt_extendT mut_extendT (pv 3) (da_cons (de_ix (de_ix (de_var 0 (pv 0)) (de_var 2 (pv 2)) (fun _ _ => rfl)) de_int (fun _ _ => rfl)) da_nil) (fun t ht => pe_bm PySem.F.plainAttrs_list PySem.F.slot_list_extend PySem.F.type_list_extend mt_extendT (pv 3) ht)))
    (dss_one (ds_set (i := 2) sc_row_at.nd rfl (by first | exact Or.inl rfl | exact Or.inr rfl) (de_ix (de_ix (de_var 0 (pv 0)) (de_var 2 (pv 2)) (fun _ _ => rfl)) de_int (fun _ _ => rfl))))))
    (dss_one (ds_fix [3] (ds_ret (de_callTy call_tuple_of cd_tuple (by rfl) (T.free_tuple) (by decide +kernel) (da_cons (de_lc (own := [("at", 4), ("mark", 5)]) (sl := ([4] ++ ([5] ++ []))) rfl sc_row_at.nd (di_enum (by rfl) (T.free_enumerate) (da_cons (de_var 1 (pv 1)) da_nil)) (blkOk_by (N := N_row_at) (sc := defScope s_row_at) (by decide +kernel)) (by decide) (fun _ _ _ _ _ => (dg_tup rfl (dgs_cons (dg_name (i := 4) sc_row_at.nd rfl (by first | exact Or.inl rfl | exact Or.inr rfl)) (dgs_cons (dg_name (i := 5) sc_row_at.nd rfl (by first | exact Or.inl rfl | exact Or.inr rfl)) dgs_nil)))) (fun _ _ _ _ _ => dts_nil) (fun _ _ _ _ _ => (de_if (dt_cmp (op_inA (room65 hr)) od_in (de_var 4 (pv 4)) (de_var 3 (pv 3)) (by first | rfl | with_unfolding_all rfl)) (de_op op_sub od_sub de_int (de_var 5 (pv 5))) (de_var 5 (pv 5))))) da_nil)))))))
theorem kn_node_of (T : Tx w K mg) : Knows P w K mg base "node_of" 2 ["tree", "founder", "row"] f_node_of :=
  kn_mk (st := s_node_of) (T.says.def_ 1 rfl) sc_node_of T.glo_node_of (fun _ _ _ _ _ _ us hl => match us, hl with | [_, _, _], _ => rfl) fun cdv A outer s H E hr hx => by
  have hp := owns_cx (P := P) (w := w) (K := K) (mg := mg) (base := base) (N := N_node_of) (qual := "node_of") (scope := defScope s_node_of) (f := (He.ga K "node_of")) (cdv := cdv) (A := A) (outer := outer) (s := s) (H := H) (E := E)
  have tk := takes_cx (P := P) (w := w) (K := K) (mg := mg) (base := base) (N := N_node_of) (qual := "node_of") (scope := defScope s_node_of) (f := (He.ga K "node_of")) (cdv := cdv) (A := A) (outer := outer) (s := s) (H := H) (E := E)
  exact (dss_cons (ds_for hp rfl (di_rng1 (by rfl) (T.free_range) (da_cons (de_callB call_lenA cd_len (by rfl) (T.free_len) (by decide +kernel) (da_cons (de_var 0 (pv 0)) da_nil)) da_nil)) (dg_name (i := 3) sc_node_of.nd rfl (by first | exact Or.inl rfl | exact Or.inr rfl)) (dss_one (ds_if (dt_cmp (op_eqA hr.units) od_eq (de_kn (kn_row_at T) (hr.mono (by decide)) (by rfl) hx (da_cons (de_var 0 (pv 0)) (da_cons (de_var 1 (pv 1)) (da_cons (de_var 3 (pv 3)) da_nil))) (aCons_len (aCons_len (aCons_len aNil_len)))) (de_var 2 (pv 2)) (nomark _)) (dss_one (ds_ret (de_var 3 (pv 3)))) dss_nil)) bN_ne)
    (dss_one (ds_ret de_non)))
theorem kn_law_row (T : Tx w K mg) : Knows P w K mg base "_law_row" 1 ["_law_cell_here", "_law_many", "_law_size"] f_law_row :=
  kn_mk (st := s_law_row) (T.says.def_ 2 rfl) sc_law_row T.glo_law_row (fun _ _ _ _ _ _ us hl => match us, hl with | [_, _, _], _ => rfl) fun cdv A outer s H E hr hx => by
  have hp := owns_cx (P := P) (w := w) (K := K) (mg := mg) (base := base) (N := N_law_row) (qual := "_law_row") (scope := defScope s_law_row) (f := (He.ga K "_law_row")) (cdv := cdv) (A := A) (outer := outer) (s := s) (H := H) (E := E)
  have tk := takes_cx (P := P) (w := w) (K := K) (mg := mg) (base := base) (N := N_law_row) (qual := "_law_row") (scope := defScope s_law_row) (f := (He.ga K "_law_row")) (cdv := cdv) (A := A) (outer := outer) (s := s) (H := H) (E := E)
  exact (dss_cons (ds_set (i := 3) sc_law_row.nd rfl (by first | exact Or.inl rfl | exact Or.inr rfl) (de_lst da_nil))
    (dss_cons (ds_if (dt_cmp (op_cmpA (op := .GtE) rfl hr.units) od_cmp (de_var 0 (pv 0)) (de_op op_pow od_pow de_int de_int) (nomark _)) (dss_cons (ds_set (i := 6) sc_law_row.nd rfl (by first | exact Or.inl rfl | exact Or.inr rfl) (de_op op_sub od_sub (de_var 0 (pv 0)) (de_op op_pow od_pow de_int de_int)))
    (dss_cons (ds_for hp rfl (di_rng1 (by rfl) (T.free_range) (da_cons (de_var 1 (pv 1)) da_nil)) (dg_name (i := 5) sc_law_row.nd rfl (by first | exact Or.inl rfl | exact Or.inr rfl)) (dss_cons (ds_mut (dm_mut PySem.F.slot_list_append PySem.F.type_list_append mt_append mut_append (pv 3) (da_cons (de_op op_mod od_mod (de_var 6 (pv 6)) (de_var 2 (pv 2))) da_nil) (fun t ht => pe_bm PySem.F.plainAttrs_list PySem.F.slot_list_append PySem.F.type_list_append mt_append (pv 3) ht)))
    (dss_one (ds_set (i := 6) sc_law_row.nd rfl (by first | exact Or.inl rfl | exact Or.inr rfl) (de_op op_fdivW od_div (de_var 6 (pv 6)) (de_var 2 (pv 2)))))) bN_ne)
    (dss_one (ds_retV 3 (pv 3))))) dss_nil)
    (dss_cons (ds_set (i := 4) sc_law_row.nd rfl (by first | exact Or.inl rfl | exact Or.inr rfl) (de_op op_mod od_mod (de_var 0 (pv 0)) de_int))
    (dss_cons (ds_for hp rfl (di_rng1 (by rfl) (T.free_range) (da_cons (de_var 1 (pv 1)) da_nil)) (dg_name (i := 5) sc_law_row.nd rfl (by first | exact Or.inl rfl | exact Or.inr rfl)) (dss_cons (ds_set (i := 4) sc_law_row.nd rfl (by first | exact Or.inl rfl | exact Or.inr rfl) (de_op op_mod od_mod (de_op op_addA od_add (de_op op_addA od_add (de_op op_mulA od_mul (de_var 4 (pv 4)) de_int) de_int) (de_var 5 (pv 5))) de_int))
    (dss_cons (ds_set (i := 7) sc_law_row.nd rfl (by first | exact Or.inl rfl | exact Or.inr rfl) (de_op op_mod od_mod (de_op op_fdivW od_div (de_op op_mulA od_mul (de_var 4 (pv 4)) (de_op op_addA od_add (de_op op_mod od_mod (de_var 4 (pv 4)) de_int) de_int)) de_int) de_int))
    (dss_one (ds_mut (dm_mut PySem.F.slot_list_append PySem.F.type_list_append mt_append mut_append (pv 3) (da_cons (de_op op_mod od_mod (de_var 7 (pv 7)) (de_var 2 (pv 2))) da_nil) (fun t ht => pe_bm PySem.F.plainAttrs_list PySem.F.slot_list_append PySem.F.type_list_append mt_append (pv 3) ht)))))) bN_ne)
    (dss_one (ds_retV 3 (pv 3)))))))
theorem kn_law_cell (T : Tx w K mg) : Knows P w K mg base "_law_cell" 1 ["_law_script", "_law_at"] f_law_cell :=
  kn_mk (st := s_law_cell) (T.says.def_ 3 rfl) sc_law_cell T.glo_law_cell (fun _ _ _ _ _ _ us hl => match us, hl with | [_, _], _ => rfl) fun cdv A outer s H E hr hx => by
  have hp := owns_cx (P := P) (w := w) (K := K) (mg := mg) (base := base) (N := N_law_cell) (qual := "_law_cell") (scope := defScope s_law_cell) (f := (He.ga K "_law_cell")) (cdv := cdv) (A := A) (outer := outer) (s := s) (H := H) (E := E)
  have tk := takes_cx (P := P) (w := w) (K := K) (mg := mg) (base := base) (N := N_law_cell) (qual := "_law_cell") (scope := defScope s_law_cell) (f := (He.ga K "_law_cell")) (cdv := cdv) (A := A) (outer := outer) (s := s) (H := H) (E := E)
  exact (dss_cons (ds_if (dt_cmp (op_cmpA (op := .Lt) rfl hr.units) od_cmp (de_var 1 (pv 1)) (de_callB call_lenA cd_len (by rfl) (T.free_len) (by decide +kernel) (da_cons (de_var 0 (pv 0)) da_nil)) (nomark _)) (dss_one (ds_ret (de_ix (de_var 0 (pv 0)) (de_var 1 (pv 1)) (fun _ _ => rfl)))) dss_nil)
    (dss_one (ds_ret de_int)))
theorem kn_depth_of (T : Tx w K mg) : Knows P w K mg base "depth_of" 1 ["tree", "node"] f_depth_of :=
  kn_mk (st := s_depth_of) (T.says.def_ 4 rfl) sc_depth_of T.glo_depth_of (fun _ _ _ _ _ _ us hl => match us, hl with | [_, _], _ => rfl) fun cdv A outer s H E hr hx => by
  have hp := owns_cx (P := P) (w := w) (K := K) (mg := mg) (base := base) (N := N_depth_of) (qual := "depth_of") (scope := defScope s_depth_of) (f := (He.ga K "depth_of")) (cdv := cdv) (A := A) (outer := outer) (s := s) (H := H) (E := E)
  have tk := takes_cx (P := P) (w := w) (K := K) (mg := mg) (base := base) (N := N_depth_of) (qual := "depth_of") (scope := defScope s_depth_of) (f := (He.ga K "depth_of")) (cdv := cdv) (A := A) (outer := outer) (s := s) (H := H) (E := E)
  exact (dss_cons (ds_set (i := 2) sc_depth_of.nd rfl (by first | exact Or.inl rfl | exact Or.inr rfl) de_int)
    (dss_cons (ds_while 100000 hp (dt_cmp (op_neA hr.units) od_ne (de_var 1 (pv 1)) de_int (nomark _)) (dss_cons (ds_aug (i := 2) sc_depth_of.nd rfl (by first | exact Or.inl rfl | exact Or.inr rfl) (de_callB call_lenA cd_len (by rfl) (T.free_len) (by decide +kernel) (da_cons (de_ix (de_ix (de_var 0 (pv 0)) (de_var 1 (pv 1)) (fun _ _ => rfl)) de_int (fun _ _ => rfl)) da_nil)))
    (dss_one (ds_set (i := 1) sc_depth_of.nd rfl (by first | exact Or.inl rfl | exact Or.inr rfl) (de_ix (de_ix (de_var 0 (pv 0)) (de_var 1 (pv 1)) (fun _ _ => rfl)) de_int (fun _ _ => rfl))))))
    (dss_one (ds_ret (de_var 2 (pv 2))))))
theorem kn_between (T : Tx w K mg) : Knows P w K mg base "between" 2 ["tree", "one", "other"] f_between :=
  kn_mk (st := s_between) (T.says.def_ 5 rfl) sc_between T.glo_between (fun _ _ _ _ _ _ us hl => match us, hl with | [_, _, _], _ => rfl) fun cdv A outer s H E hr hx => by
  have hp := owns_cx (P := P) (w := w) (K := K) (mg := mg) (base := base) (N := N_between) (qual := "between") (scope := defScope s_between) (f := (He.ga K "between")) (cdv := cdv) (A := A) (outer := outer) (s := s) (H := H) (E := E)
  have tk := takes_cx (P := P) (w := w) (K := K) (mg := mg) (base := base) (N := N_between) (qual := "between") (scope := defScope s_between) (f := (He.ga K "between")) (cdv := cdv) (A := A) (outer := outer) (s := s) (H := H) (E := E)
  exact (dss_cons (ds_set (i := 3) sc_between.nd rfl (by first | exact Or.inl rfl | exact Or.inr rfl) de_newK)
    (dss_cons (ds_set (i := 4) sc_between.nd rfl (by first | exact Or.inl rfl | exact Or.inr rfl) (de_var 1 (pv 1)))
    (dss_cons (ds_while 100000 hp (dt_cmp op_notN od_notN (de_var 4 (pv 4)) de_non (nomark _)) (dss_cons (ds_putK (i := 3) (room2 hr) de_bl (pv 3) (de_var 4 (pv 4)))
    (dss_one (ds_set (i := 4) sc_between.nd rfl (by first | exact Or.inl rfl | exact Or.inr rfl) (de_ix (de_ix (de_var 0 (pv 0)) (de_var 4 (pv 4)) (fun _ _ => rfl)) de_int (fun _ _ => rfl))))))
    (dss_cons (ds_set (i := 4) sc_between.nd rfl (by first | exact Or.inl rfl | exact Or.inr rfl) (de_var 2 (pv 2)))
    (dss_cons (ds_while 100000 hp (dt_pub (dt_cmp (op_notInK (room2 hr)) od_notInK (de_var 4 (pv 4)) (de_var 3 (pv 3)) (by first | rfl | with_unfolding_all rfl))) (dss_one (ds_set (i := 4) sc_between.nd rfl (by first | exact Or.inl rfl | exact Or.inr rfl) (de_ix (de_ix (de_var 0 (pv 0)) (de_var 4 (pv 4)) (fun _ _ => rfl)) de_int (fun _ _ => rfl)))))
    (dss_one (ds_ret (de_op op_sub od_sub (de_op op_addA od_add (de_kn (kn_depth_of T) (hr.mono (by decide)) (by rfl) hx (da_cons (de_var 0 (pv 0)) (da_cons (de_var 1 (pv 1)) da_nil)) (aCons_len (aCons_len aNil_len))) (de_kn (kn_depth_of T) (hr.mono (by decide)) (by rfl) hx (da_cons (de_var 0 (pv 0)) (da_cons (de_var 2 (pv 2)) da_nil)) (aCons_len (aCons_len aNil_len)))) (de_op op_mulA od_mul de_int (de_kn (kn_depth_of T) (hr.mono (by decide)) (by rfl) hx (da_cons (de_var 0 (pv 0)) (da_cons (de_var 4 (pv 4)) da_nil)) (aCons_len (aCons_len aNil_len))))))))))))
theorem kn_law_unlike (T : Tx w K mg) : Knows P w K mg base "_law_unlike" 1 ["_law_one", "_law_two"] f_law_unlike :=
  kn_mk (st := s_law_unlike) (T.says.def_ 6 rfl) sc_law_unlike T.glo_law_unlike (fun _ _ _ _ _ _ us hl => match us, hl with | [_, _], _ => rfl) fun cdv A outer s H E hr hx => by
  have hp := owns_cx (P := P) (w := w) (K := K) (mg := mg) (base := base) (N := N_law_unlike) (qual := "_law_unlike") (scope := defScope s_law_unlike) (f := (He.ga K "_law_unlike")) (cdv := cdv) (A := A) (outer := outer) (s := s) (H := H) (E := E)
  have tk := takes_cx (P := P) (w := w) (K := K) (mg := mg) (base := base) (N := N_law_unlike) (qual := "_law_unlike") (scope := defScope s_law_unlike) (f := (He.ga K "_law_unlike")) (cdv := cdv) (A := A) (outer := outer) (s := s) (H := H) (E := E)
  exact (dss_one (ds_ret (de_callB call_lenA cd_len (by rfl) (T.free_len) (by decide +kernel) (da_cons (de_lc (own := [("_law_at", 2)]) (sl := [2]) rfl sc_law_unlike.nd (di_rng1 (by rfl) (T.free_range) (da_cons (de_callB call_lenA cd_len (by rfl) (T.free_len) (by decide +kernel) (da_cons (de_var 0 (pv 0)) da_nil)) da_nil)) (blkOk_by (N := N_law_unlike) (sc := defScope s_law_unlike) (by decide +kernel)) (by decide) (fun _ _ _ _ _ => (dg_name (i := 2) sc_law_unlike.nd rfl (by first | exact Or.inl rfl | exact Or.inr rfl))) (fun _ _ _ _ _ => (dts_one (dt_cmp (op_neA hr.units) od_ne (de_ix (de_var 0 (pv 0)) (de_var 2 (pv 2)) (fun _ _ => rfl)) (de_ix (de_var 1 (pv 1)) (de_var 2 (pv 2)) (fun _ _ => rfl)) (nomark _)))) (fun _ _ _ _ _ => (de_var 2 (pv 2)))) da_nil))))
theorem kn_law_whole (T : Tx w K mg) : Knows P w K mg base "_law_whole" 1 ["_law_found"] f_law_whole :=
  kn_mk (st := s_law_whole) (T.says.def_ 7 rfl) sc_law_whole T.glo_law_whole (fun _ _ _ _ _ _ us hl => match us, hl with | [_], _ => rfl) fun cdv A outer s H E hr hx => by
  have hp := owns_cx (P := P) (w := w) (K := K) (mg := mg) (base := base) (N := N_law_whole) (qual := "_law_whole") (scope := defScope s_law_whole) (f := (He.ga K "_law_whole")) (cdv := cdv) (A := A) (outer := outer) (s := s) (H := H) (E := E)
  have tk := takes_cx (P := P) (w := w) (K := K) (mg := mg) (base := base) (N := N_law_whole) (qual := "_law_whole") (scope := defScope s_law_whole) (f := (He.ga K "_law_whole")) (cdv := cdv) (A := A) (outer := outer) (s := s) (H := H) (E := E)
  exact (dss_one (ds_ret (de_and (de_isi (by rfl) (T.free_isinstance) (by rfl) (T.free_int) (by decide +kernel) (de_var 0 (pv 0))) (de_one (de_not (de_isi (by rfl) (T.free_isinstance) (by rfl) (T.free_bool) (by decide +kernel) (de_var 0 (pv 0))))))))
theorem kn_law_is_row (T : Tx w K mg) : Knows P w K mg base "_law_is_row" 2 ["_law_found", "_law_many", "_law_most"] f_law_is_row :=
  kn_mk (st := s_law_is_row) (T.says.def_ 8 rfl) sc_law_is_row T.glo_law_is_row (fun _ _ _ _ _ _ us hl => match us, hl with | [_, _, _], _ => rfl) fun cdv A outer s H E hr hx => by
  have hp := owns_cx (P := P) (w := w) (K := K) (mg := mg) (base := base) (N := N_law_is_row) (qual := "_law_is_row") (scope := defScope s_law_is_row) (f := (He.ga K "_law_is_row")) (cdv := cdv) (A := A) (outer := outer) (s := s) (H := H) (E := E)
  have tk := takes_cx (P := P) (w := w) (K := K) (mg := mg) (base := base) (N := N_law_is_row) (qual := "_law_is_row") (scope := defScope s_law_is_row) (f := (He.ga K "_law_is_row")) (cdv := cdv) (A := A) (outer := outer) (s := s) (H := H) (E := E)
  exact (dss_cons (ds_if (DW.dt (dw_or (dt_not (dt_val (de_isi (by rfl) (T.free_isinstance) (by rfl) (T.free_tuple) (by decide +kernel) (de_var 0 (pv 0))))) (dw_or1 (dt_cmp (op_neA hr.units) od_ne (de_callB call_lenA cd_len (by rfl) (T.free_len) (by decide +kernel) (da_cons (de_var 0 (pv 0)) da_nil)) (de_var 1 (pv 1)) (nomark _))))) (dss_one (ds_ret de_bl)) dss_nil)
    (dss_cons (ds_for hp rfl (di_any (de_var 0 (pv 0))) (dg_name (i := 3) sc_law_is_row.nd rfl (by first | exact Or.inl rfl | exact Or.inr rfl)) (dss_one (ds_if (DW.dt (dw_or (dt_not (dt_val (de_kn (kn_law_whole T) (hr.mono (by decide)) (by rfl) hx (da_cons (de_var 3 (pv 3)) da_nil) (aCons_len aNil_len)))) (dw_or (dt_cmp (op_cmpA (op := .Lt) rfl hr.units) od_cmp (de_var 3 (pv 3)) de_int (nomark _)) (dw_or1 (dt_cmp (op_cmpA (op := .Gt) rfl hr.units) od_cmp (de_var 3 (pv 3)) (de_var 2 (pv 2)) (nomark _)))))) (dss_one (ds_ret de_bl)) dss_nil)) bN_ne)
    (dss_one (ds_ret de_bl))))
theorem kn_law_node_row (T : Tx w K mg) : Knows P w K mg base "_law_node_row" 1 ["_law_tree", "_law_base", "_law_node"] f_law_node_row :=
  kn_mk (st := s_law_node_row) (T.says.def_ 9 rfl) sc_law_node_row T.glo_law_node_row (fun _ _ _ _ _ _ us hl => match us, hl with | [_, _, _], _ => rfl) fun cdv A outer s H E hr hx => by
  have hp := owns_cx (P := P) (w := w) (K := K) (mg := mg) (base := base) (N := N_law_node_row) (qual := "_law_node_row") (scope := defScope s_law_node_row) (f := (He.ga K "_law_node_row")) (cdv := cdv) (A := A) (outer := outer) (s := s) (H := H) (E := E)
  have tk := takes_cx (P := P) (w := w) (K := K) (mg := mg) (base := base) (N := N_law_node_row) (qual := "_law_node_row") (scope := defScope s_law_node_row) (f := (He.ga K "_law_node_row")) (cdv := cdv) (A := A) (outer := outer) (s := s) (H := H) (E := E)
  exact (dss_cons (ds_set (i := 3) sc_law_node_row.nd rfl (by first | exact Or.inl rfl | exact Or.inr rfl) (de_callTy call_list_of cd_list (by rfl) (T.free_list) (by decide +kernel) (da_cons (de_var 1 (pv 1)) da_nil)))
    (dss_cons (ds_while 100000 hp (dt_cmp (op_neA hr.units) od_ne (de_var 2 (pv 2)) de_int (nomark _)) (dss_cons (ds_for hp rfl (di_any (de_ix (de_ix (de_var 0 (pv 0)) (de_var 2 (pv 2)) (fun _ _ => rfl)) de_int (fun _ _ => rfl))) (dg_name (i := 4) sc_law_node_row.nd rfl (by first | exact Or.inl rfl | exact Or.inr rfl)) (dss_one (ds_setIx (i := 3) (de_pub (de_op op_sub od_sub de_int (de_ix (de_var 3 (pv 3)) (de_var 4 (pv 4)) (fun _ _ => rfl)))) (pv 3) (de_pub (de_var 4 (pv 4))))) bN_ne)
    (dss_one (ds_set (i := 2) sc_law_node_row.nd rfl (by first | exact Or.inl rfl | exact Or.inr rfl) (de_ix (de_ix (de_var 0 (pv 0)) (de_var 2 (pv 2)) (fun _ _ => rfl)) de_int (fun _ _ => rfl))))))
    (dss_one (ds_fix [3] (ds_ret (de_callTy call_tuple_of cd_tuple (by rfl) (T.free_tuple) (by decide +kernel) (da_cons (de_var 3 (pv 3)) da_nil)))))))
theorem kn_law_is_tree (T : Tx w K mg) : Knows P w K mg base "_law_is_tree" 2 ["_law_tree", "_law_many"] f_law_is_tree :=
  kn_mk (st := s_law_is_tree) (T.says.def_ 10 rfl) sc_law_is_tree T.glo_law_is_tree (fun _ _ _ _ _ _ us hl => match us, hl with | [_, _], _ => rfl) fun cdv A outer s H E hr hx => by
  have hp := owns_cx (P := P) (w := w) (K := K) (mg := mg) (base := base) (N := N_law_is_tree) (qual := "_law_is_tree") (scope := defScope s_law_is_tree) (f := (He.ga K "_law_is_tree")) (cdv := cdv) (A := A) (outer := outer) (s := s) (H := H) (E := E)
  have tk := takes_cx (P := P) (w := w) (K := K) (mg := mg) (base := base) (N := N_law_is_tree) (qual := "_law_is_tree") (scope := defScope s_law_is_tree) (f := (He.ga K "_law_is_tree")) (cdv := cdv) (A := A) (outer := outer) (s := s) (H := H) (E := E)
  exact (dss_cons (ds_if (DW.dt (dw_or (dt_not (dt_val (de_isi (by rfl) (T.free_isinstance) (by rfl) (T.free_list) (by decide +kernel) (de_var 0 (pv 0))))) (dw_or (dt_cmp (op_eqA hr.units) od_eq (de_callB call_lenA cd_len (by rfl) (T.free_len) (by decide +kernel) (da_cons (de_var 0 (pv 0)) da_nil)) de_int (nomark _)) (dw_or1 (dt_cmp (op_neA hr.units) od_ne (de_ix (de_var 0 (pv 0)) de_int (fun _ _ => rfl)) (de_tup (da_cons de_non (da_cons (de_tup da_nil) da_nil))) (nomark _)))))) (dss_one (ds_ret de_bl)) dss_nil)
    (dss_cons (ds_set (i := 2) sc_law_is_tree.nd rfl (by first | exact Or.inl rfl | exact Or.inr rfl) (de_lst da_nil))
    (dss_cons (ds_for hp rfl (di_any (de_var 0 (pv 0))) (dg_name (i := 3) sc_law_is_tree.nd rfl (by first | exact Or.inl rfl | exact Or.inr rfl)) (dss_one (ds_if (DW.dt (dw_or (dt_not (dt_val (de_isi (by rfl) (T.free_isinstance) (by rfl) (T.free_tuple) (by decide +kernel) (de_var 3 (pv 3))))) (dw_or (dt_cmp (op_neA hr.units) od_ne (de_callB call_lenA cd_len (by rfl) (T.free_len) (by decide +kernel) (da_cons (de_var 3 (pv 3)) da_nil)) de_int (nomark _)) (dw_or1 (dt_not (dt_val (de_isi (by rfl) (T.free_isinstance) (by rfl) (T.free_tuple) (by decide +kernel) (de_ix (de_var 3 (pv 3)) de_int (fun _ _ => rfl))))))))) (dss_one (ds_ret de_bl)) dss_nil)) bN_ne)
    (dss_cons (ds_for hp rfl (di_rng2 (by rfl) (T.free_range) (da_cons de_int (da_cons (de_callB call_lenA cd_len (by rfl) (T.free_len) (by decide +kernel) (da_cons (de_var 0 (pv 0)) da_nil)) da_nil))) (dg_name (i := 4) sc_law_is_tree.nd rfl (by first | exact Or.inl rfl | exact Or.inr rfl)) (dss_cons (ds_if (DW.dt (dw_or (dt_not (dt_val (de_kn (kn_law_whole T) (hr.mono (by decide)) (by rfl) hx (da_cons (de_ix (de_ix (de_var 0 (pv 0)) (de_var 4 (pv 4)) (fun _ _ => rfl)) de_int (fun _ _ => rfl)) da_nil) (aCons_len aNil_len)))) (dw_or (dt_cmp (op_cmpA (op := .Lt) rfl hr.units) od_cmp (de_ix (de_ix (de_var 0 (pv 0)) (de_var 4 (pv 4)) (fun _ _ => rfl)) de_int (fun _ _ => rfl)) de_int (nomark _)) (dw_or1 (dt_cmp (op_cmpA (op := .GtE) rfl hr.units) od_cmp (de_ix (de_ix (de_var 0 (pv 0)) (de_var 4 (pv 4)) (fun _ _ => rfl)) de_int (fun _ _ => rfl)) (de_var 4 (pv 4)) (nomark _)))))) (dss_one (ds_ret de_bl)) dss_nil)
    (dss_cons (ds_if (dt_cmp (op_eqA hr.units) od_eq (de_callB call_lenA cd_len (by rfl) (T.free_len) (by decide +kernel) (da_cons (de_ix (de_ix (de_var 0 (pv 0)) (de_var 4 (pv 4)) (fun _ _ => rfl)) de_int (fun _ _ => rfl)) da_nil)) de_int (nomark _)) (dss_one (ds_ret de_bl)) dss_nil)
    (dss_cons (ds_for hp rfl (di_any (de_ix (de_ix (de_var 0 (pv 0)) (de_var 4 (pv 4)) (fun _ _ => rfl)) de_int (fun _ _ => rfl))) (dg_name (i := 5) sc_law_is_tree.nd rfl (by first | exact Or.inl rfl | exact Or.inr rfl)) (dss_cons (ds_if (dt_pub (DW.dt (dw_or (dt_not (dt_val (de_kn (kn_law_whole T) (hr.mono (by decide)) (by rfl) hx (da_cons (de_var 5 (pv 5)) da_nil) (aCons_len aNil_len)))) (dw_or (dt_cmp (op_cmpA (op := .Lt) rfl hr.units) od_cmp (de_var 5 (pv 5)) de_int (nomark _)) (dw_or (dt_cmp (op_cmpA (op := .GtE) rfl hr.units) od_cmp (de_var 5 (pv 5)) (de_var 1 (pv 1)) (nomark _)) (dw_or1 (dt_cmp (op_inA (room65 hr)) od_in (de_var 5 (pv 5)) (de_var 2 (pv 2)) (by first | rfl | with_unfolding_all rfl)))))))) (dss_one (ds_ret de_bl)) dss_nil)
    (dss_one (ds_mut (dm_mut PySem.F.slot_list_append PySem.F.type_list_append mt_append mut_append (pv 2) (da_cons (de_var 5 (pv 5)) da_nil) (fun t ht => pe_bm PySem.F.plainAttrs_list PySem.F.slot_list_append PySem.F.type_list_append mt_append (pv 2) ht))))) bN_ne)
    (dss_one (ds_if (dt_cmp (op_neA hr.units) od_ne (de_callTy call_list_of cd_list (by rfl) (T.free_list) (by decide +kernel) (da_cons (de_ix (de_ix (de_var 0 (pv 0)) (de_var 4 (pv 4)) (fun _ _ => rfl)) de_int (fun _ _ => rfl)) da_nil)) (de_callB (cr_sortU2 (room64 hr)) cd_sortU2 (by rfl) (T.free_sorted) (by decide +kernel) (da_cons (de_ix (de_ix (de_var 0 (pv 0)) (de_var 4 (pv 4)) (fun _ _ => rfl)) de_int (fun _ _ => rfl)) da_nil)) (nomark _)) (dss_one (ds_ret de_bl)) dss_nil))))) bN_ne)
    (dss_one (ds_ret de_bl))))))
theorem kn_law_by_hand (T : Tx w K mg) : Knows P w K mg base "_law_by_hand" 2 ["_law_script", "_law_many"] f_law_by_hand :=
  kn_mk (st := s_law_by_hand) (T.says.def_ 11 rfl) sc_law_by_hand T.glo_law_by_hand (fun _ _ _ _ _ _ us hl => match us, hl with | [_, _], _ => rfl) fun cdv A outer s H E hr hx => by
  have hp := owns_cx (P := P) (w := w) (K := K) (mg := mg) (base := base) (N := N_law_by_hand) (qual := "_law_by_hand") (scope := defScope s_law_by_hand) (f := (He.ga K "_law_by_hand")) (cdv := cdv) (A := A) (outer := outer) (s := s) (H := H) (E := E)
  have tk := takes_cx (P := P) (w := w) (K := K) (mg := mg) (base := base) (N := N_law_by_hand) (qual := "_law_by_hand") (scope := defScope s_law_by_hand) (f := (He.ga K "_law_by_hand")) (cdv := cdv) (A := A) (outer := outer) (s := s) (H := H) (E := E)
  exact (dss_cons (ds_set (i := 2) sc_law_by_hand.nd rfl (by first | exact Or.inl rfl | exact Or.inr rfl) (de_lst (da_cons (de_tup (da_cons de_non (da_cons (de_tup da_nil) da_nil))) da_nil)))
    (dss_cons (ds_set (i := 3) sc_law_by_hand.nd rfl (by first | exact Or.inl rfl | exact Or.inr rfl) (de_listRg1 rfl (by rfl) (T.free_list) (by rfl) (T.free_range) (de_var 1 (pv 1))))
    (dss_cons (ds_for hp rfl (di_any (de_kn (kn_law_row T) (hr.mono (by decide)) (by rfl) hx (da_cons (de_kn (kn_law_cell T) (hr.mono (by decide)) (by rfl) hx (da_cons (de_var 0 (pv 0)) (da_cons de_int da_nil)) (aCons_len (aCons_len aNil_len))) (da_cons (de_var 1 (pv 1)) (da_cons de_int da_nil))) (aCons_len (aCons_len (aCons_len aNil_len))))) (dg_name (i := 4) sc_law_by_hand.nd rfl (by first | exact Or.inl rfl | exact Or.inr rfl)) (dss_cons (ds_mutA (i := 5) sc_law_by_hand.nd rfl (by first | exact Or.inl rfl | exact Or.inr rfl) (dm_mut PySem.F.slot_list_pop PySem.F.type_list_pop mt_popAt mut_popAt (pv 3) (da_cons (de_pub (de_op op_mod od_mod (de_var 4 (pv 4)) (de_callB call_lenA cd_len (by rfl) (T.free_len) (by decide +kernel) (da_cons (de_var 3 (pv 3)) da_nil)))) da_nil) (fun t ht => pe_bm PySem.F.plainAttrs_list PySem.F.slot_list_pop PySem.F.type_list_pop mt_popAt (pv 3) ht)))
    (dss_one (ds_if (dt_pub (DW.dt (dw_and (dt_cmp (op_eqA hr.units) od_eq (de_op op_mod od_mod (de_op op_fdivW od_div (de_var 4 (pv 4)) de_int) de_int) de_int (nomark _)) (dw_and1 (dt_cmp (op_cmpA (op := .Gt) rfl hr.units) od_cmp (de_callB call_lenA cd_len (by rfl) (T.free_len) (by decide +kernel) (da_cons (de_var 2 (pv 2)) da_nil)) de_int (nomark _)))))) (dss_one (ds_mut (dm_mutM mut_append (dam_one (dm_tup (dam_consM (dm_lift (de_pub (de_ix (de_ix (de_var 2 (pv 2)) (de_un un_neg ud_neg de_int) (fun _ _ => rfl)) de_int (fun _ _ => rfl)))) (dam_one (dm_callTy call_tuple_of cd_tuple (by rfl) (T.free_tuple) (by decide +kernel) (dam_one (dm_callB (cr_sortU2 (room64 hr)) cd_sortU2 (by rfl) (T.free_sorted) (by decide +kernel) (dam_one (dm_op op_addA od_add (dm_ix (dm_mut0 mut_pop (pe_bm0 PySem.F.plainAttrs_list PySem.F.slot_list_pop PySem.F.type_list_pop mt_pop (pv 2))) de_int (fun _ _ => rfl)) (de_tup (da_cons (de_var 5 (pv 5)) da_nil))))))))))) (fun t ht => pe_bm PySem.F.plainAttrs_list PySem.F.slot_list_append PySem.F.type_list_append mt_append (pv 2) ht)))) (dss_one (ds_if (dt_cmp (op_cmpA (op := .Gt) rfl hr.units) od_cmp (de_op op_mod od_mod (de_op op_fdivW od_div (de_var 4 (pv 4)) de_int) de_int) de_int (nomark _)) (dss_one (ds_mut (dm_mut PySem.F.slot_list_append PySem.F.type_list_append mt_append mut_append (pv 2) (da_cons (de_pub (de_tup (da_cons (de_op op_mod od_mod (de_op op_fdivW od_div (de_var 4 (pv 4)) de_int) (de_callB call_lenA cd_len (by rfl) (T.free_len) (by decide +kernel) (da_cons (de_var 2 (pv 2)) da_nil))) (da_cons (de_tup (da_cons (de_var 5 (pv 5)) da_nil)) da_nil)))) da_nil) (fun t ht => pe_bm PySem.F.plainAttrs_list PySem.F.slot_list_append PySem.F.type_list_append mt_append (pv 2) ht)))) dss_nil))))) bN_ne)
    (dss_one (ds_retV 2 (pv 2))))))
theorem kn_parent_of (T : Tx w K mg) : Knows P w K mg base "parent_of" 1 ["groups", "at"] f_parent_of :=
  kn_mk (st := s_parent_of) (T.says.def_ 12 rfl) sc_parent_of T.glo_parent_of (fun _ _ _ _ _ _ us hl => match us, hl with | [_, _], _ => rfl) fun cdv A outer s H E hr hx => by
  have hp := owns_cx (P := P) (w := w) (K := K) (mg := mg) (base := base) (N := N_parent_of) (qual := "parent_of") (scope := defScope s_parent_of) (f := (He.ga K "parent_of")) (cdv := cdv) (A := A) (outer := outer) (s := s) (H := H) (E := E)
  have tk := takes_cx (P := P) (w := w) (K := K) (mg := mg) (base := base) (N := N_parent_of) (qual := "parent_of") (scope := defScope s_parent_of) (f := (He.ga K "parent_of")) (cdv := cdv) (A := A) (outer := outer) (s := s) (H := H) (E := E)
  exact (dss_cons (ds_for hp rfl (di_revR (by rfl) (T.free_reversed) (by rfl) (T.free_range) (de_var 1 (pv 1))) (dg_name (i := 2) sc_parent_of.nd rfl (by first | exact Or.inl rfl | exact Or.inr rfl)) (dss_one (ds_if (dt_val (de_callB (cr_all rfl) cd_all (by rfl) (T.free_all) (by decide +kernel) (da_cons (de_lc (own := [("row", 3)]) (sl := [3]) rfl sc_parent_of.nd (di_any (de_ix (de_ix (de_var 0 (pv 0)) (de_var 1 (pv 1)) (fun _ _ => rfl)) de_int (fun _ _ => rfl))) (blkOk_by (N := N_parent_of) (sc := defScope s_parent_of) (by decide +kernel)) (by decide) (fun _ _ _ _ _ => (dg_name (i := 3) sc_parent_of.nd rfl (by first | exact Or.inl rfl | exact Or.inr rfl))) (fun _ _ _ _ _ => dts_nil) (fun _ _ _ _ _ => (de_cmp (op_inA (room65 hr)) od_in (de_var 3 (pv 3)) (de_ix (de_ix (de_var 0 (pv 0)) (de_var 2 (pv 2)) (fun _ _ => rfl)) de_int (fun _ _ => rfl)) (by first | rfl | with_unfolding_all rfl)))) da_nil))) (dss_one (ds_ret (de_op op_addA od_add (de_var 2 (pv 2)) de_int))) dss_nil)) bN_ne)
    (dss_one (ds_ret de_int)))
theorem kn_bearers (T : Tx w K mg) : Knows P w K mg base "bearers" 1 ["rows", "founder", "mark"] f_bearers :=
  kn_mk (st := s_bearers) (T.says.def_ 13 rfl) sc_bearers T.glo_bearers (fun _ _ _ _ _ _ us hl => match us, hl with | [_, _, _], _ => rfl) fun cdv A outer s H E hr hx => by
  have hp := owns_cx (P := P) (w := w) (K := K) (mg := mg) (base := base) (N := N_bearers) (qual := "bearers") (scope := defScope s_bearers) (f := (He.ga K "bearers")) (cdv := cdv) (A := A) (outer := outer) (s := s) (H := H) (E := E)
  have tk := takes_cx (P := P) (w := w) (K := K) (mg := mg) (base := base) (N := N_bearers) (qual := "bearers") (scope := defScope s_bearers) (f := (He.ga K "bearers")) (cdv := cdv) (A := A) (outer := outer) (s := s) (H := H) (E := E)
  exact (dss_one (ds_ret (de_callTy call_tuple_of cd_tuple (by rfl) (T.free_tuple) (by decide +kernel) (da_cons (de_lc (own := [("k", 3), ("row", 4)]) (sl := ([3] ++ ([4] ++ []))) rfl sc_bearers.nd (di_enum (by rfl) (T.free_enumerate) (da_cons (de_var 0 (pv 0)) da_nil)) (blkOk_by (N := N_bearers) (sc := defScope s_bearers) (by decide +kernel)) (by decide) (fun _ _ _ _ _ => (dg_tup rfl (dgs_cons (dg_name (i := 3) sc_bearers.nd rfl (by first | exact Or.inl rfl | exact Or.inr rfl)) (dgs_cons (dg_name (i := 4) sc_bearers.nd rfl (by first | exact Or.inl rfl | exact Or.inr rfl)) dgs_nil)))) (fun _ _ _ _ _ => (dts_one (dt_cmp (op_neA hr.units) od_ne (de_ix (de_var 4 (pv 4)) (de_var 2 (pv 2)) (fun _ _ => rfl)) (de_ix (de_var 1 (pv 1)) (de_var 2 (pv 2)) (fun _ _ => rfl)) (nomark _)))) (fun _ _ _ _ _ => (de_var 3 (pv 3)))) da_nil))))
theorem kn_changes (T : Tx w K mg) : Knows P w K mg base "changes" 2 ["rows", "founder"] f_changes :=
  kn_mk (st := s_changes) (T.says.def_ 14 rfl) sc_changes T.glo_changes (fun _ _ _ _ _ _ us hl => match us, hl with | [_, _], _ => rfl) fun cdv A outer s H E hr hx => by
  have hp := owns_cx (P := P) (w := w) (K := K) (mg := mg) (base := base) (N := N_changes) (qual := "changes") (scope := defScope s_changes) (f := (He.ga K "changes")) (cdv := cdv) (A := A) (outer := outer) (s := s) (H := H) (E := E)
  have tk := takes_cx (P := P) (w := w) (K := K) (mg := mg) (base := base) (N := N_changes) (qual := "changes") (scope := defScope s_changes) (f := (He.ga K "changes")) (cdv := cdv) (A := A) (outer := outer) (s := s) (H := H) (E := E)
  exact (dss_cons (ds_set (i := 2) sc_changes.nd rfl (by first | exact Or.inl rfl | exact Or.inr rfl) de_newT)
    (dss_cons (ds_for hp rfl (di_rng1 (by rfl) (T.free_range) (da_cons (de_callB call_lenA cd_len (by rfl) (T.free_len) (by decide +kernel) (da_cons (de_var 1 (pv 1)) da_nil)) da_nil)) (dg_name (i := 3) sc_changes.nd rfl (by first | exact Or.inl rfl | exact Or.inr rfl)) (dss_cons (ds_set (i := 5) sc_changes.nd rfl (by first | exact Or.inl rfl | exact Or.inr rfl) (de_kn (kn_bearers T) (hr.mono (by decide)) (by rfl) hx (da_cons (de_var 0 (pv 0)) (da_cons (de_var 1 (pv 1)) (da_cons (de_var 3 (pv 3)) da_nil))) (aCons_len (aCons_len (aCons_len aNil_len)))))
    (dss_one (ds_if (dt_cmp (op_cmpA (op := .Gt) rfl hr.units) od_cmp (de_callB call_lenA cd_len (by rfl) (T.free_len) (by decide +kernel) (da_cons (de_var 5 (pv 5)) da_nil)) de_int (nomark _)) (dss_one (ds_putT (i := 2) (room2 hr) (de_pub (de_op op_addA od_add (de_get2T (room2 hr) (de_var 2 (pv 2)) (de_var 5 (pv 5)) (de_tup da_nil) ⟨by rfl, by rfl, by rfl, by rfl⟩) (de_tup (da_cons (de_var 3 (pv 3)) da_nil)))) (pv 2) (de_pub (de_var 5 (pv 5))))) dss_nil))) bN_ne)
    (dss_cons (ds_set (i := 4) sc_changes.nd rfl (by first | exact Or.inl rfl | exact Or.inr rfl) (de_callB (cr_sortD (room64 hr)) cd_sortD (by rfl) (T.free_sorted) (by decide +kernel) (da_cons (de_lcIt (i := 2) (own := [("who", 5), ("marks", 7)]) (sl := ([5] ++ ([7] ++ []))) rfl sc_changes.nd (pv 2) (blkOk_by (N := N_changes) (sc := defScope s_changes) (by decide +kernel)) (by decide) (fun _ _ _ _ _ => (dg_tup rfl (dgs_cons (dg_name (i := 5) sc_changes.nd rfl (by first | exact Or.inl rfl | exact Or.inr rfl)) (dgs_cons (dg_name (i := 7) sc_changes.nd rfl (by first | exact Or.inl rfl | exact Or.inr rfl)) dgs_nil)))) (fun _ _ _ _ _ => dts_nil) (fun _ _ _ _ _ => (de_tup (da_cons (de_op op_sub od_sub de_int (de_callB call_lenA cd_len (by rfl) (T.free_len) (by decide +kernel) (da_cons (de_var 5 (pv 5)) da_nil))) (da_cons (de_ix (de_var 7 (pv 7)) de_int (fun _ _ => rfl)) (da_cons (de_var 5 (pv 5)) da_nil)))))) da_nil)))
    (dss_one (ds_fix [2, 4] (ds_ret (de_lc (own := [("size", 6), ("mark", 3), ("who", 5)]) (sl := ([6] ++ ([3] ++ ([5] ++ [])))) rfl sc_changes.nd (di_any (de_var 4 (pv 4))) (blkOk_by (N := N_changes) (sc := defScope s_changes) (by decide +kernel)) (by decide) (fun _ _ _ _ _ => (dg_tup rfl (dgs_cons (dg_name (i := 6) sc_changes.nd rfl (by first | exact Or.inl rfl | exact Or.inr rfl)) (dgs_cons (dg_name (i := 3) sc_changes.nd rfl (by first | exact Or.inl rfl | exact Or.inr rfl)) (dgs_cons (dg_name (i := 5) sc_changes.nd rfl (by first | exact Or.inl rfl | exact Or.inr rfl)) dgs_nil))))) (fun _ _ _ _ _ => dts_nil) (fun _ _ _ _ _ => (de_tup (da_cons (de_var 5 (pv 5)) (da_cons (de_getT (room2 hr) (de_var 2 (pv 2)) (de_var 5 (pv 5)) (fun _ _ => rfl)) da_nil)))))))))))
theorem kn_unlike_rows (T : Tx w K mg) : Knows P w K mg base "unlike_rows" 1 ["rows"] f_unlike_rows :=
  kn_mk (st := s_unlike_rows) (T.says.def_ 15 rfl) sc_unlike_rows T.glo_unlike_rows (fun _ _ _ _ _ _ us hl => match us, hl with | [_], _ => rfl) fun cdv A outer s H E hr hx => by
  have hp := owns_cx (P := P) (w := w) (K := K) (mg := mg) (base := base) (N := N_unlike_rows) (qual := "unlike_rows") (scope := defScope s_unlike_rows) (f := (He.ga K "unlike_rows")) (cdv := cdv) (A := A) (outer := outer) (s := s) (H := H) (E := E)
  have tk := takes_cx (P := P) (w := w) (K := K) (mg := mg) (base := base) (N := N_unlike_rows) (qual := "unlike_rows") (scope := defScope s_unlike_rows) (f := (He.ga K "unlike_rows")) (cdv := cdv) (A := A) (outer := outer) (s := s) (H := H) (E := E)
  exact (dss_one (ds_ret (de_srtSet rfl (room64 hr) (by rfl) (T.free_sorted) (by rfl) (T.free_set) (de_var 0 (pv 0)))))
theorem kn_pairs_of (T : Tx w K mg) : Knows P w K mg base "pairs_of" 1 ["marks"] f_pairs_of :=
  kn_mk (st := s_pairs_of) (T.says.def_ 16 rfl) sc_pairs_of T.glo_pairs_of (fun _ _ _ _ _ _ us hl => match us, hl with | [_], _ => rfl) fun cdv A outer s H E hr hx => by
  have hp := owns_cx (P := P) (w := w) (K := K) (mg := mg) (base := base) (N := N_pairs_of) (qual := "pairs_of") (scope := defScope s_pairs_of) (f := (He.ga K "pairs_of")) (cdv := cdv) (A := A) (outer := outer) (s := s) (H := H) (E := E)
  have tk := takes_cx (P := P) (w := w) (K := K) (mg := mg) (base := base) (N := N_pairs_of) (qual := "pairs_of") (scope := defScope s_pairs_of) (f := (He.ga K "pairs_of")) (cdv := cdv) (A := A) (outer := outer) (s := s) (H := H) (E := E)
  exact (dss_cons (ds_set (i := 1) sc_pairs_of.nd rfl (by first | exact Or.inl rfl | exact Or.inr rfl) (de_lst da_nil))
    (dss_cons (ds_for hp rfl (di_enum (by rfl) (T.free_enumerate) (da_cons (de_var 0 (pv 0)) da_nil)) (dg_tup rfl (dgs_cons (dg_name (i := 2) sc_pairs_of.nd rfl (by first | exact Or.inl rfl | exact Or.inr rfl)) (dgs_cons (dg_name (i := 3) sc_pairs_of.nd rfl (by first | exact Or.inl rfl | exact Or.inr rfl)) dgs_nil))) (dss_one (ds_for hp rfl (di_any (de_sl (de_var 0 (pv 0)) (do_some (de_op op_addA od_add (de_var 2 (pv 2)) de_int)) do_none)) (dg_name (i := 4) sc_pairs_of.nd rfl (by first | exact Or.inl rfl | exact Or.inr rfl)) (dss_one (ds_mut (dm_mut PySem.F.slot_list_append PySem.F.type_list_append mt_append mut_append (pv 1) (da_cons (de_tup (da_cons (de_var 3 (pv 3)) (da_cons (de_var 4 (pv 4)) da_nil))) da_nil) (fun t ht => pe_bm PySem.F.plainAttrs_list PySem.F.slot_list_append PySem.F.type_list_append mt_append (pv 1) ht)))) bN_ne)) (bTup_ne (bCons_ne bN_ne (bCons_ne bN_ne bNil_ne))))
    (dss_one (ds_retV 1 (pv 1)))))
theorem kn_has_all (T : Tx w K mg) : Knows P w K mg base "has_all" 1 ["by"] f_has_all :=
  kn_mk (st := s_has_all) (T.says.def_ 17 rfl) sc_has_all T.glo_has_all (fun _ _ _ _ _ _ us hl => match us, hl with | [_], _ => rfl) fun cdv A outer s H E hr hx => by
  have hp := owns_cx (P := P) (w := w) (K := K) (mg := mg) (base := base) (N := N_has_all) (qual := "has_all") (scope := defScope s_has_all) (f := (He.ga K "has_all")) (cdv := cdv) (A := A) (outer := outer) (s := s) (H := H) (E := E)
  have tk := takes_cx (P := P) (w := w) (K := K) (mg := mg) (base := base) (N := N_has_all) (qual := "has_all") (scope := defScope s_has_all) (f := (He.ga K "has_all")) (cdv := cdv) (A := A) (outer := outer) (s := s) (H := H) (E := E)
  exact (dss_one (ds_ret (de_callB (cr_all rfl) cd_all (by rfl) (T.free_all) (by decide +kernel) (da_cons (de_lc (own := [("pair", 1)]) (sl := [1]) rfl sc_has_all.nd (di_con (by rfl) T.con_BARRING) (blkOk_by (N := N_has_all) (sc := defScope s_has_all) (by decide +kernel)) (by decide) (fun _ _ _ _ _ => (dg_name (i := 1) sc_has_all.nd rfl (by first | exact Or.inl rfl | exact Or.inr rfl))) (fun _ _ _ _ _ => dts_nil) (fun _ _ _ _ _ => (de_cmp (op_inT (room2 hr)) od_inT (de_var 1 (pv 1)) (de_var 0 (pv 0)) (by first | rfl | with_unfolding_all rfl)))) da_nil))))
theorem kn_ways_of_mark (T : Tx w K mg) : Knows P w K mg base "ways_of_mark" 1 ["mark"] f_ways_of_mark :=
  kn_mk (st := s_ways_of_mark) (T.says.def_ 18 rfl) sc_ways_of_mark T.glo_ways_of_mark (fun _ _ _ _ _ _ us hl => match us, hl with | [_], _ => rfl) fun cdv A outer s H E hr hx => by
  have hp := owns_cx (P := P) (w := w) (K := K) (mg := mg) (base := base) (N := N_ways_of_mark) (qual := "ways_of_mark") (scope := defScope s_ways_of_mark) (f := (He.ga K "ways_of_mark")) (cdv := cdv) (A := A) (outer := outer) (s := s) (H := H) (E := E)
  have tk := takes_cx (P := P) (w := w) (K := K) (mg := mg) (base := base) (N := N_ways_of_mark) (qual := "ways_of_mark") (scope := defScope s_ways_of_mark) (f := (He.ga K "ways_of_mark")) (cdv := cdv) (A := A) (outer := outer) (s := s) (H := H) (E := E)
  exact (dss_cons (ds_if (dt_cmp (op_eqA hr.units) od_eq (de_var 0 (pv 0)) de_int (nomark _)) (dss_one (ds_ret (de_lst (da_cons de_int (da_cons de_int da_nil))))) dss_nil)
    (dss_one (ds_ret (de_lst (da_cons (de_var 0 (pv 0)) da_nil)))))
theorem kn_shows (T : Tx w K mg) : Knows P w K mg base "shows" 2 ["sight", "one", "other"] f_shows :=
  kn_mk (st := s_shows) (T.says.def_ 19 rfl) sc_shows T.glo_shows (fun _ _ _ _ _ _ us hl => match us, hl with | [_, _, _], _ => rfl) fun cdv A outer s H E hr hx => by
  have hp := owns_cx (P := P) (w := w) (K := K) (mg := mg) (base := base) (N := N_shows) (qual := "shows") (scope := defScope s_shows) (f := (He.ga K "shows")) (cdv := cdv) (A := A) (outer := outer) (s := s) (H := H) (E := E)
  have tk := takes_cx (P := P) (w := w) (K := K) (mg := mg) (base := base) (N := N_shows) (qual := "shows") (scope := defScope s_shows) (f := (He.ga K "shows")) (cdv := cdv) (A := A) (outer := outer) (s := s) (H := H) (E := E)
  exact (dss_cons (ds_if (DW.dt (dw_and (dt_cmp (op_eqA hr.units) od_eq (de_ix (de_var 0 (pv 0)) (de_var 1 (pv 1)) (fun _ _ => rfl)) de_int (nomark _)) (dw_and1 (dt_cmp (op_eqA hr.units) od_eq (de_ix (de_var 0 (pv 0)) (de_var 2 (pv 2)) (fun _ _ => rfl)) de_int (nomark _))))) (dss_one (ds_ret (de_lst da_nil))) dss_nil)
    (dss_cons (ds_set (i := 3) sc_shows.nd rfl (by first | exact Or.inl rfl | exact Or.inr rfl) (de_lst da_nil))
    (dss_cons (ds_for hp rfl (di_any (de_kn (kn_ways_of_mark T) (hr.mono (by decide)) (by rfl) hx (da_cons (de_ix (de_var 0 (pv 0)) (de_var 1 (pv 1)) (fun _ _ => rfl)) da_nil) (aCons_len aNil_len))) (dg_name (i := 4) sc_shows.nd rfl (by first | exact Or.inl rfl | exact Or.inr rfl)) (dss_one (ds_for hp rfl (di_any (de_kn (kn_ways_of_mark T) (hr.mono (by decide)) (by rfl) hx (da_cons (de_ix (de_var 0 (pv 0)) (de_var 2 (pv 2)) (fun _ _ => rfl)) da_nil) (aCons_len aNil_len))) (dg_name (i := 5) sc_shows.nd rfl (by first | exact Or.inl rfl | exact Or.inr rfl)) (dss_one (ds_mut (dm_mut PySem.F.slot_list_append PySem.F.type_list_append mt_append mut_append (pv 3) (da_cons (de_tup (da_cons (de_var 4 (pv 4)) (da_cons (de_var 5 (pv 5)) da_nil))) da_nil) (fun t ht => pe_bm PySem.F.plainAttrs_list PySem.F.slot_list_append PySem.F.type_list_append mt_append (pv 3) ht)))) bN_ne)) bN_ne)
    (dss_one (ds_retV 3 (pv 3))))))
theorem kn_shown_by (T : Tx w K mg) : Knows P w K mg base "shown_by" 3 ["folk", "one", "other"] f_shown_by :=
  kn_mk (st := s_shown_by) (T.says.def_ 20 rfl) sc_shown_by T.glo_shown_by (fun _ _ _ _ _ _ us hl => match us, hl with | [_, _, _], _ => rfl) fun cdv A outer s H E hr hx => by
  have hp := owns_cx (P := P) (w := w) (K := K) (mg := mg) (base := base) (N := N_shown_by) (qual := "shown_by") (scope := defScope s_shown_by) (f := (He.ga K "shown_by")) (cdv := cdv) (A := A) (outer := outer) (s := s) (H := H) (E := E)
  have tk := takes_cx (P := P) (w := w) (K := K) (mg := mg) (base := base) (N := N_shown_by) (qual := "shown_by") (scope := defScope s_shown_by) (f := (He.ga K "shown_by")) (cdv := cdv) (A := A) (outer := outer) (s := s) (H := H) (E := E)
  exact (dss_cons (ds_set (i := 3) sc_shown_by.nd rfl (by first | exact Or.inl rfl | exact Or.inr rfl) de_newT)
    (dss_cons (ds_for hp rfl (di_any (de_var 0 (pv 0))) (dg_tup rfl (dgs_cons (dg_name (i := 4) sc_shown_by.nd rfl (by first | exact Or.inl rfl | exact Or.inr rfl)) (dgs_cons (dg_name (i := 5) sc_shown_by.nd rfl (by first | exact Or.inl rfl | exact Or.inr rfl)) dgs_nil))) (dss_one (ds_for hp rfl (di_any (de_kn (kn_shows T) (hr.mono (by decide)) (by rfl) hx (da_cons (de_var 5 (pv 5)) (da_cons (de_var 1 (pv 1)) (da_cons (de_var 2 (pv 2)) da_nil))) (aCons_len (aCons_len (aCons_len aNil_len))))) (dg_name (i := 6) sc_shown_by.nd rfl (by first | exact Or.inl rfl | exact Or.inr rfl)) (dss_one (ds_if (dt_pub (dt_cmp (op_notInT (room2 hr)) od_notInT (de_var 6 (pv 6)) (de_var 3 (pv 3)) (by first | rfl | with_unfolding_all rfl))) (dss_one (ds_putT (i := 3) (room2 hr) (de_var 4 (pv 4)) (pv 3) (de_var 6 (pv 6)))) dss_nil)) bN_ne)) (bTup_ne (bCons_ne bN_ne (bCons_ne bN_ne bNil_ne))))
    (dss_one (ds_retV 3 (pv 3)))))
theorem kn_changed_mark (T : Tx w K mg) : Knows P w K mg base "changed_mark" 1 ["mark", "ground"] f_changed_mark :=
  kn_mk (st := s_changed_mark) (T.says.def_ 21 rfl) sc_changed_mark T.glo_changed_mark (fun _ _ _ _ _ _ us hl => match us, hl with | [_, _], _ => rfl) fun cdv A outer s H E hr hx => by
  have hp := owns_cx (P := P) (w := w) (K := K) (mg := mg) (base := base) (N := N_changed_mark) (qual := "changed_mark") (scope := defScope s_changed_mark) (f := (He.ga K "changed_mark")) (cdv := cdv) (A := A) (outer := outer) (s := s) (H := H) (E := E)
  have tk := takes_cx (P := P) (w := w) (K := K) (mg := mg) (base := base) (N := N_changed_mark) (qual := "changed_mark") (scope := defScope s_changed_mark) (f := (He.ga K "changed_mark")) (cdv := cdv) (A := A) (outer := outer) (s := s) (H := H) (E := E)
  exact (dss_cons (ds_if (dt_cmp (op_eqA hr.units) od_eq (de_var 0 (pv 0)) de_int (nomark _)) (dss_one (ds_ret de_int)) dss_nil)
    (dss_one (ds_ret (de_op op_mod od_mod (de_op op_addA od_add (de_var 0 (pv 0)) (de_var 1 (pv 1))) de_int))))
theorem kn_against (T : Tx w K mg) : Knows P w K mg base "against" 2 ["row", "founder"] f_against :=
  kn_mk (st := s_against) (T.says.def_ 22 rfl) sc_against T.glo_against (fun _ _ _ _ _ _ us hl => match us, hl with | [_, _], _ => rfl) fun cdv A outer s H E hr hx => by
  have hp := owns_cx (P := P) (w := w) (K := K) (mg := mg) (base := base) (N := N_against) (qual := "against") (scope := defScope s_against) (f := (He.ga K "against")) (cdv := cdv) (A := A) (outer := outer) (s := s) (H := H) (E := E)
  have tk := takes_cx (P := P) (w := w) (K := K) (mg := mg) (base := base) (N := N_against) (qual := "against") (scope := defScope s_against) (f := (He.ga K "against")) (cdv := cdv) (A := A) (outer := outer) (s := s) (H := H) (E := E)
  exact (dss_one (ds_ret (de_callTy call_tuple_of cd_tuple (by rfl) (T.free_tuple) (by decide +kernel) (da_cons (de_lc (own := [("mark", 2), ("ground", 3)]) (sl := ([2] ++ ([3] ++ []))) rfl sc_against.nd (di_zip (by rfl) (T.free_zip) (da_cons (de_var 0 (pv 0)) (da_cons (de_var 1 (pv 1)) da_nil))) (blkOk_by (N := N_against) (sc := defScope s_against) (by decide +kernel)) (by decide) (fun _ _ _ _ _ => (dg_tup rfl (dgs_cons (dg_name (i := 2) sc_against.nd rfl (by first | exact Or.inl rfl | exact Or.inr rfl)) (dgs_cons (dg_name (i := 3) sc_against.nd rfl (by first | exact Or.inl rfl | exact Or.inr rfl)) dgs_nil)))) (fun _ _ _ _ _ => dts_nil) (fun _ _ _ _ _ => (de_kn (kn_changed_mark T) (hr.mono (by decide)) (by rfl) passL (da_cons (de_var 2 (pv 2)) (da_cons (de_var 3 (pv 3)) da_nil)) (aCons_len (aCons_len aNil_len))))) da_nil))))
theorem kn_barred_at (T : Tx w K mg) : Knows P w K mg base "barred_at" 4 ["rows", "founder"] f_barred_at :=
  kn_mk (st := s_barred_at) (T.says.def_ 23 rfl) sc_barred_at T.glo_barred_at (fun _ _ _ _ _ _ us hl => match us, hl with | [_, _], _ => rfl) fun cdv A outer s H E hr hx => by
  have hp := owns_cx (P := P) (w := w) (K := K) (mg := mg) (base := base) (N := N_barred_at) (qual := "barred_at") (scope := defScope s_barred_at) (f := (He.ga K "barred_at")) (cdv := cdv) (A := A) (outer := outer) (s := s) (H := H) (E := E)
  have tk := takes_cx (P := P) (w := w) (K := K) (mg := mg) (base := base) (N := N_barred_at) (qual := "barred_at") (scope := defScope s_barred_at) (f := (He.ga K "barred_at")) (cdv := cdv) (A := A) (outer := outer) (s := s) (H := H) (E := E)
  exact (dss_cons (by first | exact ds_set (i := 2) sc_barred_at.nd rfl (by first | exact Or.inl rfl | exact Or.inr rfl) (de_lc (own := [("row", 5)]) (sl := [5]) rfl sc_barred_at.nd (di_any (de_var 0 (pv 0))) (blkOk_by (N := N_barred_at) (sc := defScope s_barred_at) (by decide +kernel)) (by decide) (fun _ _ _ _ _ => (dg_name (i := 5) sc_barred_at.nd rfl (by first | exact Or.inl rfl | exact Or.inr rfl))) (fun _ _ _ _ _ => dts_nil) (fun _ _ _ _ _ => (de_tup (da_cons de_str (da_cons (de_kn (kn_against T) (hr.mono (by decide)) (by rfl) passL (da_cons (de_var 5 (pv 5)) (da_cons (de_var 1 (pv 1)) da_nil)) (aCons_len (aCons_len aNil_len))) da_nil))))) | exact ds_setLc (i := 2) (own := [("row", 5)]) (sl := [5]) rfl sc_barred_at.nd rfl rfl (sw_true rfl rfl rfl (by decide +kernel)) (di_any (de_var 0 (pv 0))) (blkOk_by (N := N_barred_at) (sc := defScope s_barred_at) (by decide +kernel)) (by decide) (fun _ _ _ _ _ => (dg_name (i := 5) sc_barred_at.nd rfl (by first | exact Or.inl rfl | exact Or.inr rfl))) (fun _ _ _ _ _ => dts_nil) (fun _ _ _ _ _ => (de_tup (da_cons de_str (da_cons (de_kn (kn_against T) (hr.mono (by decide)) (by rfl) passL (da_cons (de_var 5 (pv 5)) (da_cons (de_var 1 (pv 1)) da_nil)) (aCons_len (aCons_len aNil_len))) da_nil)))))
    (dss_cons (ds_for hp rfl (di_any (de_kn (kn_pairs_of T) (hr.mono (by decide)) (by rfl) hx (da_cons (de_listRg1 rfl (by rfl) (T.free_list) (by rfl) (T.free_range) (de_callB call_lenA cd_len (by rfl) (T.free_len) (by decide +kernel) (da_cons (de_var 1 (pv 1)) da_nil))) da_nil) (aCons_len aNil_len))) (dg_tup rfl (dgs_cons (dg_name (i := 3) sc_barred_at.nd rfl (by first | exact Or.inl rfl | exact Or.inr rfl)) (dgs_cons (dg_name (i := 4) sc_barred_at.nd rfl (by first | exact Or.inl rfl | exact Or.inr rfl)) dgs_nil))) (dss_one (ds_fix [2] (ds_if (dt_val (de_kn (kn_has_all T) (hr.mono (by decide)) (by rfl) hx (da_cons (de_kn (kn_shown_by T) (hr.mono (by decide)) (by rfl) hx (da_cons (de_var 2 (pv 2)) (da_cons (de_var 3 (pv 3)) (da_cons (de_var 4 (pv 4)) da_nil))) (aCons_len (aCons_len (aCons_len aNil_len)))) da_nil) (aCons_len aNil_len))) (dss_one (ds_ret (de_tup (da_cons (de_var 3 (pv 3)) (da_cons (de_var 4 (pv 4)) da_nil))))) dss_nil))) (bTup_ne (bCons_ne bN_ne (bCons_ne bN_ne bNil_ne))))
    (dss_one (ds_ret de_non))))
theorem kn_is_borne (T : Tx w K mg) : Knows P w K mg base "is_borne" 5 ["rows", "founder"] f_is_borne :=
  kn_mk (st := s_is_borne) (T.says.def_ 24 rfl) sc_is_borne T.glo_is_borne (fun _ _ _ _ _ _ us hl => match us, hl with | [_, _], _ => rfl) fun cdv A outer s H E hr hx => by
  have hp := owns_cx (P := P) (w := w) (K := K) (mg := mg) (base := base) (N := N_is_borne) (qual := "is_borne") (scope := defScope s_is_borne) (f := (He.ga K "is_borne")) (cdv := cdv) (A := A) (outer := outer) (s := s) (H := H) (E := E)
  have tk := takes_cx (P := P) (w := w) (K := K) (mg := mg) (base := base) (N := N_is_borne) (qual := "is_borne") (scope := defScope s_is_borne) (f := (He.ga K "is_borne")) (cdv := cdv) (A := A) (outer := outer) (s := s) (H := H) (E := E)
  exact (dss_one (ds_ret (de_cmp op_isN od_isN (de_kn (kn_barred_at T) (hr.mono (by decide)) (by rfl) hx (da_cons (de_var 0 (pv 0)) (da_cons (de_var 1 (pv 1)) da_nil)) (aCons_len (aCons_len aNil_len))) de_non (nomark _))))
theorem kn_tree_of (T : Tx w K mg) : Knows P w K mg base "tree_of" 6 ["rows", "founder"] f_tree_of :=
  kn_mk (st := s_tree_of) (T.says.def_ 25 rfl) sc_tree_of T.glo_tree_of (fun _ _ _ _ _ _ us hl => match us, hl with | [_, _], _ => rfl) fun cdv A outer s H E hr hx => by
  have hp := owns_cx (P := P) (w := w) (K := K) (mg := mg) (base := base) (N := N_tree_of) (qual := "tree_of") (scope := defScope s_tree_of) (f := (He.ga K "tree_of")) (cdv := cdv) (A := A) (outer := outer) (s := s) (H := H) (E := E)
  have tk := takes_cx (P := P) (w := w) (K := K) (mg := mg) (base := base) (N := N_tree_of) (qual := "tree_of") (scope := defScope s_tree_of) (f := (He.ga K "tree_of")) (cdv := cdv) (A := A) (outer := outer) (s := s) (H := H) (E := E)
  exact (dss_cons (ds_if (dt_not (dt_val (de_kn (kn_is_borne T) (hr.mono (by decide)) (by rfl) hx (da_cons (de_var 0 (pv 0)) (da_cons (de_var 1 (pv 1)) da_nil)) (aCons_len (aCons_len aNil_len))))) (dss_one (ds_raise rfl tk T.exc_NoTree (by rfl))) dss_nil)
    (dss_cons (ds_set (i := 2) sc_tree_of.nd rfl (by first | exact Or.inl rfl | exact Or.inr rfl) (de_kn (kn_changes T) (hr.mono (by decide)) (by rfl) hx (da_cons (de_kn (kn_unlike_rows T) (hr.mono (by decide)) (by rfl) hx (da_cons (de_var 0 (pv 0)) da_nil) (aCons_len aNil_len)) (da_cons (de_var 1 (pv 1)) da_nil)) (aCons_len (aCons_len aNil_len))))
    (dss_cons (ds_set (i := 3) sc_tree_of.nd rfl (by first | exact Or.inl rfl | exact Or.inr rfl) (de_lst (da_cons (de_tup (da_cons de_non (da_cons (de_tup da_nil) da_nil))) da_nil)))
    (dss_cons (ds_fix [2] (ds_for hp rfl (di_rng1 (by rfl) (T.free_range) (da_cons (de_callB call_lenA cd_len (by rfl) (T.free_len) (by decide +kernel) (da_cons (de_var 2 (pv 2)) da_nil)) da_nil)) (dg_name (i := 4) sc_tree_of.nd rfl (by first | exact Or.inl rfl | exact Or.inr rfl)) (dss_one (ds_fix [2] (ds_mut (dm_mut PySem.F.slot_list_append PySem.F.type_list_append mt_append mut_append (pv 3) (da_cons (de_tup (da_cons (de_kn (kn_parent_of T) (hr.mono (by decide)) (by rfl) hx (da_cons (de_var 2 (pv 2)) (da_cons (de_var 4 (pv 4)) da_nil)) (aCons_len (aCons_len aNil_len))) (da_cons (de_ix (de_ix (de_var 2 (pv 2)) (de_var 4 (pv 4)) (fun _ _ => rfl)) de_int (fun _ _ => rfl)) da_nil))) da_nil) (fun t ht => pe_bm PySem.F.plainAttrs_list PySem.F.slot_list_append PySem.F.type_list_append mt_append (pv 3) ht))))) bN_ne))
    (dss_one (ds_retV 3 (pv 3)))))))
theorem kn_law_flip (T : Tx w K mg) : Knows P w K mg base "_law_flip" 1 ["_law_row_here", "_law_at"] f_law_flip :=
  kn_mk (st := s_law_flip) (T.says.def_ 26 rfl) sc_law_flip T.glo_law_flip (fun _ _ _ _ _ _ us hl => match us, hl with | [_, _], _ => rfl) fun cdv A outer s H E hr hx => by
  have hp := owns_cx (P := P) (w := w) (K := K) (mg := mg) (base := base) (N := N_law_flip) (qual := "_law_flip") (scope := defScope s_law_flip) (f := (He.ga K "_law_flip")) (cdv := cdv) (A := A) (outer := outer) (s := s) (H := H) (E := E)
  have tk := takes_cx (P := P) (w := w) (K := K) (mg := mg) (base := base) (N := N_law_flip) (qual := "_law_flip") (scope := defScope s_law_flip) (f := (He.ga K "_law_flip")) (cdv := cdv) (A := A) (outer := outer) (s := s) (H := H) (E := E)
  exact (dss_one (ds_ret (de_op op_addA od_add (de_op op_addA od_add (de_sl (de_var 0 (pv 0)) do_none (do_some (de_var 1 (pv 1)))) (de_tup (da_cons (de_op op_sub od_sub de_int (de_ix (de_var 0 (pv 0)) (de_var 1 (pv 1)) (fun _ _ => rfl))) da_nil))) (de_sl (de_var 0 (pv 0)) (do_some (de_op op_addA od_add (de_var 1 (pv 1)) de_int)) do_none))))
theorem kn_law_grown (T : Tx w K mg) : Knows P w K mg base "_law_grown" 2 ["_law_founder", "_law_cell_here"] f_law_grown :=
  kn_mk (st := s_law_grown) (T.says.def_ 27 rfl) sc_law_grown T.glo_law_grown (fun _ _ _ _ _ _ us hl => match us, hl with | [_, _], _ => rfl) fun cdv A outer s H E hr hx => by
  have hp := owns_cx (P := P) (w := w) (K := K) (mg := mg) (base := base) (N := N_law_grown) (qual := "_law_grown") (scope := defScope s_law_grown) (f := (He.ga K "_law_grown")) (cdv := cdv) (A := A) (outer := outer) (s := s) (H := H) (E := E)
  have tk := takes_cx (P := P) (w := w) (K := K) (mg := mg) (base := base) (N := N_law_grown) (qual := "_law_grown") (scope := defScope s_law_grown) (f := (He.ga K "_law_grown")) (cdv := cdv) (A := A) (outer := outer) (s := s) (H := H) (E := E)
  exact (dss_cons (ds_set (i := 2) sc_law_grown.nd rfl (by first | exact Or.inl rfl | exact Or.inr rfl) (de_lst (da_cons (de_var 0 (pv 0)) da_nil)))
    (dss_cons (ds_set (i := 3) sc_law_grown.nd rfl (by first | exact Or.inl rfl | exact Or.inr rfl) (de_listRg1 rfl (by rfl) (T.free_list) (by rfl) (T.free_range) (de_callB call_lenA cd_len (by rfl) (T.free_len) (by decide +kernel) (da_cons (de_var 0 (pv 0)) da_nil))))
    (dss_cons (ds_for hp rfl (di_any (de_kn (kn_law_row T) (hr.mono (by decide)) (by rfl) hx (da_cons (de_var 1 (pv 1)) (da_cons (de_callB call_lenA cd_len (by rfl) (T.free_len) (by decide +kernel) (da_cons (de_var 0 (pv 0)) da_nil)) (da_cons de_int da_nil))) (aCons_len (aCons_len (aCons_len aNil_len))))) (dg_name (i := 4) sc_law_grown.nd rfl (by first | exact Or.inl rfl | exact Or.inr rfl)) (dss_cons (ds_mutA (i := 5) sc_law_grown.nd rfl (by first | exact Or.inl rfl | exact Or.inr rfl) (dm_mut PySem.F.slot_list_pop PySem.F.type_list_pop mt_popAt mut_popAt (pv 3) (da_cons (de_pub (de_op op_mod od_mod (de_var 4 (pv 4)) (de_callB call_lenA cd_len (by rfl) (T.free_len) (by decide +kernel) (da_cons (de_var 3 (pv 3)) da_nil)))) da_nil) (fun t ht => pe_bm PySem.F.plainAttrs_list PySem.F.slot_list_pop PySem.F.type_list_pop mt_popAt (pv 3) ht)))
    (dss_cons (ds_if (dt_cmp (op_eqA hr.units) od_eq (de_op op_mod od_mod (de_op op_fdivW od_div (de_var 4 (pv 4)) de_int) de_int) de_int (nomark _)) (dss_one ds_continue) dss_nil)
    (dss_one (ds_if (dt_pub (DW.dt (dw_and (dt_cmp (op_eqA hr.units) od_eq (de_op op_mod od_mod (de_op op_fdivW od_div (de_var 4 (pv 4)) de_int) de_int) de_int (nomark _)) (dw_and1 (dt_cmp (op_cmpA (op := .Gt) rfl hr.units) od_cmp (de_callB call_lenA cd_len (by rfl) (T.free_len) (by decide +kernel) (da_cons (de_var 2 (pv 2)) da_nil)) de_int (nomark _)))))) (dss_one (ds_mut (dm_mutM mut_append (dam_one (dm_kn (kn_law_flip T) (hr.mono (by decide)) (by rfl) hx (dam_cons (dm_mut0 mut_pop (pe_bm0 PySem.F.plainAttrs_list PySem.F.slot_list_pop PySem.F.type_list_pop mt_pop (pv 2))) (da_cons (de_var 5 (pv 5)) da_nil)) (amCons_len (aCons_len aNil_len)))) (fun t ht => pe_bm PySem.F.plainAttrs_list PySem.F.slot_list_append PySem.F.type_list_append mt_append (pv 2) ht)))) (dss_one (ds_mut (dm_mut PySem.F.slot_list_append PySem.F.type_list_append mt_append mut_append (pv 2) (da_cons (de_pub (de_kn (kn_law_flip T) (hr.mono (by decide)) (by rfl) hx (da_cons (de_ix (de_var 2 (pv 2)) (de_op op_mod od_mod (de_op op_fdivW od_div (de_var 4 (pv 4)) de_int) (de_callB call_lenA cd_len (by rfl) (T.free_len) (by decide +kernel) (da_cons (de_var 2 (pv 2)) da_nil))) (fun _ _ => rfl)) (da_cons (de_var 5 (pv 5)) da_nil)) (aCons_len (aCons_len aNil_len)))) da_nil) (fun t ht => pe_bm PySem.F.plainAttrs_list PySem.F.slot_list_append PySem.F.type_list_append mt_append (pv 2) ht)))))))) bN_ne)
    (dss_one (ds_retV 2 (pv 2))))))
theorem kn_law_rows_v3 (T : Tx w K mg) : Knows P w K mg base "_law_rows" 3 ["_law_script", "_law_at"] f_law_rows_v3 :=
  kn_mk (st := s_law_rows_v3) (T.says.def_ 28 rfl) sc_law_rows_v3 T.glo_law_rows (fun _ _ _ _ _ _ us hl => match us, hl with | [_, _], _ => rfl) fun cdv A outer s H E hr hx => by
  have hp := owns_cx (P := P) (w := w) (K := K) (mg := mg) (base := base) (N := N_law_rows_v3) (qual := "_law_rows") (scope := defScope s_law_rows_v3) (f := (He.ga K "_law_rows")) (cdv := cdv) (A := A) (outer := outer) (s := s) (H := H) (E := E)
  have tk := takes_cx (P := P) (w := w) (K := K) (mg := mg) (base := base) (N := N_law_rows_v3) (qual := "_law_rows") (scope := defScope s_law_rows_v3) (f := (He.ga K "_law_rows")) (cdv := cdv) (A := A) (outer := outer) (s := s) (H := H) (E := E)
  exact (dss_cons (ds_set (i := 2) sc_law_rows_v3.nd rfl (by first | exact Or.inl rfl | exact Or.inr rfl) (de_kn (kn_law_cell T) (hr.mono (by decide)) (by rfl) hx (da_cons (de_var 0 (pv 0)) (da_cons (de_var 1 (pv 1)) da_nil)) (aCons_len (aCons_len aNil_len))))
    (dss_cons (ds_set (i := 3) sc_law_rows_v3.nd rfl (by first | exact Or.inl rfl | exact Or.inr rfl) (de_op op_addA od_add de_int (de_op op_mod od_mod (de_var 2 (pv 2)) de_int)))
    (dss_cons (ds_set (i := 4) sc_law_rows_v3.nd rfl (by first | exact Or.inl rfl | exact Or.inr rfl) (de_callTy call_tuple_of cd_tuple (by rfl) (T.free_tuple) (by decide +kernel) (da_cons (de_kn (kn_law_row T) (hr.mono (by decide)) (by rfl) hx (da_cons (de_kn (kn_law_cell T) (hr.mono (by decide)) (by rfl) hx (da_cons (de_var 0 (pv 0)) (da_cons (de_op op_addA od_add (de_var 1 (pv 1)) de_int) da_nil)) (aCons_len (aCons_len aNil_len))) (da_cons (de_var 3 (pv 3)) (da_cons de_int da_nil))) (aCons_len (aCons_len (aCons_len aNil_len)))) da_nil)))
    (dss_cons (ds_set (i := 5) sc_law_rows_v3.nd rfl (by first | exact Or.inl rfl | exact Or.inr rfl) (de_kn (kn_law_grown T) (hr.mono (by decide)) (by rfl) hx (da_cons (de_var 4 (pv 4)) (da_cons (de_kn (kn_law_cell T) (hr.mono (by decide)) (by rfl) hx (da_cons (de_var 0 (pv 0)) (da_cons (de_op op_addA od_add (de_var 1 (pv 1)) de_int) da_nil)) (aCons_len (aCons_len aNil_len))) da_nil)) (aCons_len (aCons_len aNil_len))))
    (dss_cons (ds_set (i := 6) sc_law_rows_v3.nd rfl (by first | exact Or.inl rfl | exact Or.inr rfl) (de_kn (kn_law_row T) (hr.mono (by decide)) (by rfl) hx (da_cons (de_kn (kn_law_cell T) (hr.mono (by decide)) (by rfl) hx (da_cons (de_var 0 (pv 0)) (da_cons (de_op op_addA od_add (de_var 1 (pv 1)) de_int) da_nil)) (aCons_len (aCons_len aNil_len))) (da_cons (de_op op_mod od_mod (de_op op_fdivW od_div (de_var 2 (pv 2)) de_int) de_int) (da_cons de_int da_nil))) (aCons_len (aCons_len (aCons_len aNil_len)))))
    (dss_cons (ds_fix [5, 6] (by first | exact ds_set (i := 7) sc_law_rows_v3.nd rfl (by first | exact Or.inl rfl | exact Or.inr rfl) (de_lc (own := [("_law_step", 8)]) (sl := [8]) rfl sc_law_rows_v3.nd (di_any (de_var 6 (pv 6))) (blkOk_by (N := N_law_rows_v3) (sc := defScope s_law_rows_v3) (by decide +kernel)) (by decide) (fun _ _ _ _ _ => (dg_name (i := 8) sc_law_rows_v3.nd rfl (by first | exact Or.inl rfl | exact Or.inr rfl))) (fun _ _ _ _ _ => dts_nil) (fun _ _ _ _ _ => (de_ix (de_var 5 (pv 5)) (de_op op_mod od_mod (de_var 8 (pv 8)) (de_callB call_lenA cd_len (by rfl) (T.free_len) (by decide +kernel) (da_cons (de_var 5 (pv 5)) da_nil))) (fun _ _ => rfl)))) | exact ds_setLc (i := 7) (own := [("_law_step", 8)]) (sl := [8]) rfl sc_law_rows_v3.nd rfl rfl (sw_true rfl rfl rfl (by decide +kernel)) (di_any (de_var 6 (pv 6))) (blkOk_by (N := N_law_rows_v3) (sc := defScope s_law_rows_v3) (by decide +kernel)) (by decide) (fun _ _ _ _ _ => (dg_name (i := 8) sc_law_rows_v3.nd rfl (by first | exact Or.inl rfl | exact Or.inr rfl))) (fun _ _ _ _ _ => dts_nil) (fun _ _ _ _ _ => (de_ix (de_var 5 (pv 5)) (de_op op_mod od_mod (de_var 8 (pv 8)) (de_callB call_lenA cd_len (by rfl) (T.free_len) (by decide +kernel) (da_cons (de_var 5 (pv 5)) da_nil))) (fun _ _ => rfl)))))
    (dss_cons (ds_if (dt_cmp (op_eqA hr.units) od_eq (de_op op_mod od_mod (de_op op_fdivW od_div (de_var 2 (pv 2)) de_int) de_int) de_int (nomark _)) (dss_one (ds_fix [5, 7] (ds_set (i := 7) sc_law_rows_v3.nd rfl (by first | exact Or.inl rfl | exact Or.inr rfl) (de_op op_addA od_add (de_var 7 (pv 7)) (de_var 5 (pv 5)))))) dss_nil)
    (dss_one (ds_fix [7] (ds_ret (de_tup (da_cons (de_var 4 (pv 4)) (da_cons (de_var 7 (pv 7)) da_nil)))))))))))))
theorem d_law (T : Tx w K mg) {f : Addr} (cdv : Value) (A : Around) (outer : List PySem.Env) (s : Shared) (H : Hp) (E : XK) (hr : Room 6 (A.deeper (envOfC "law" (defScope s_law_k23) s.heap.objs.size f cdv))) :
    DSs (cxOf CX0 P w K mg base N_law_k23 "law" (defScope s_law_k23) f cdv A outer s H E).nox E0 (defBody s_law_k23) o_law_k23 := by
  have hp := PassesOwn.never (M := model P w) (A := (cxOf CX0 P w K mg base N_law_k23 "law" (defScope s_law_k23) f cdv A outer s H E).nox.A) (env := (cxOf CX0 P w K mg base N_law_k23 "law" (defScope s_law_k23) f cdv A outer s H E).nox.env)
  have hx := passL (X := (cxOf CX0 P w K mg base N_law_k23 "law" (defScope s_law_k23) f cdv A outer s H E).nox)
  exact (dss_cons (ds_asg (de_kn (kn_law_rows_v3 T) (hr.mono (by decide)) (by rfl) hx (da_cons (de_var 0 (pv 0)) (da_cons de_int da_nil)) (aCons_len (aCons_len aNil_len))) (dg_tup rfl (dgs_cons (dg_name (i := 9) sc_law_k23.nd rfl (by first | exact Or.inl rfl | exact Or.inr rfl)) (dgs_cons (dg_name (i := 10) sc_law_k23.nd rfl (by first | exact Or.inl rfl | exact Or.inr rfl)) dgs_nil))) (hb := (bTup_ne (bCons_ne bN_ne (bCons_ne bN_ne bNil_ne)))))
    (dss_cons (ds_set (i := 1) sc_law_k23.nd rfl (by first | exact Or.inl rfl | exact Or.inr rfl) (de_kn (kn_tree_of T) (hr.mono (by decide)) (by rfl) hx (da_cons (de_callTy call_list_of cd_list (by rfl) (T.free_list) (by decide +kernel) (da_cons (de_var 10 (pv 10)) da_nil)) (da_cons (de_var 9 (pv 9)) da_nil)) (aCons_len (aCons_len aNil_len))))
    (dss_cons (ds_if (dt_cmp (op_eqA hr.units) od_eq (de_op op_mod od_mod (de_kn (kn_law_cell T) (hr.mono (by decide)) (by rfl) hx (da_cons (de_var 0 (pv 0)) (da_cons de_int da_nil)) (aCons_len (aCons_len aNil_len))) de_int) de_int (nomark _)) (dss_one (ds_set (i := 1) sc_law_k23.nd rfl (by first | exact Or.inl rfl | exact Or.inr rfl) (de_kn (kn_law_by_hand T) (hr.mono (by decide)) (by rfl) hx (da_cons (de_var 0 (pv 0)) (da_cons (de_callB call_lenA cd_len (by rfl) (T.free_len) (by decide +kernel) (da_cons (de_var 9 (pv 9)) da_nil)) da_nil)) (aCons_len (aCons_len aNil_len))))) dss_nil)
    (dss_cons (ds_fix [1] (ds_if (dt_not (dt_val (de_kn (kn_law_is_tree T) (hr.mono (by decide)) (by rfl) hx (da_cons (de_var 1 (pv 1)) (da_cons (de_callB call_lenA cd_len (by rfl) (T.free_len) (by decide +kernel) (da_cons (de_var 9 (pv 9)) da_nil)) da_nil)) (aCons_len (aCons_len aNil_len))))) (dss_one (ds_ret de_bl)) dss_nil))
    (dss_cons (ds_fix [1] (ds_set (i := 2) sc_law_k23.nd rfl (by first | exact Or.inl rfl | exact Or.inr rfl) (de_callTy call_list_of cd_list (by rfl) (T.free_list) (by decide +kernel) (da_cons (de_var 1 (pv 1)) da_nil))))
    (dss_cons (ds_fix [1] (by first | exact ds_set (i := 3) sc_law_k23.nd rfl (by first | exact Or.inl rfl | exact Or.inr rfl) (de_lc (own := [("_law_node", 4)]) (sl := [4]) rfl sc_law_k23.nd (di_rng1 (by rfl) (T.free_range) (da_cons (de_callB call_lenA cd_len (by rfl) (T.free_len) (by decide +kernel) (da_cons (de_var 1 (pv 1)) da_nil)) da_nil)) (blkOk_by (N := N_law_k23) (sc := defScope s_law_k23) (by decide +kernel)) (by decide) (fun _ _ _ _ _ => (dg_name (i := 4) sc_law_k23.nd rfl (by first | exact Or.inl rfl | exact Or.inr rfl))) (fun _ _ _ _ _ => dts_nil) (fun _ _ _ _ _ => (de_kn (kn_law_node_row T) (hr.mono (by decide)) (by rfl) passL (da_cons (de_var 1 (pv 1)) (da_cons (de_var 9 (pv 9)) (da_cons (de_var 4 (pv 4)) da_nil))) (aCons_len (aCons_len (aCons_len aNil_len)))))) | exact ds_setLc (i := 3) (own := [("_law_node", 4)]) (sl := [4]) rfl sc_law_k23.nd rfl rfl (sw_true rfl rfl rfl (by decide +kernel)) (di_rng1 (by rfl) (T.free_range) (da_cons (de_callB call_lenA cd_len (by rfl) (T.free_len) (by decide +kernel) (da_cons (de_var 1 (pv 1)) da_nil)) da_nil)) (blkOk_by (N := N_law_k23) (sc := defScope s_law_k23) (by decide +kernel)) (by decide) (fun _ _ _ _ _ => (dg_name (i := 4) sc_law_k23.nd rfl (by first | exact Or.inl rfl | exact Or.inr rfl))) (fun _ _ _ _ _ => dts_nil) (fun _ _ _ _ _ => (de_kn (kn_law_node_row T) (hr.mono (by decide)) (by rfl) passL (da_cons (de_var 1 (pv 1)) (da_cons (de_var 9 (pv 9)) (da_cons (de_var 4 (pv 4)) da_nil))) (aCons_len (aCons_len (aCons_len aNil_len)))))))
    (dss_cons (ds_fix [1] (ds_for hp rfl (di_rng1 (by rfl) (T.free_range) (da_cons (de_callB call_lenA cd_len (by rfl) (T.free_len) (by decide +kernel) (da_cons (de_var 1 (pv 1)) da_nil)) da_nil)) (dg_name (i := 4) sc_law_k23.nd rfl (by first | exact Or.inl rfl | exact Or.inr rfl)) (dss_cons (ds_fix [2] (ds_set (i := 11) sc_law_k23.nd rfl (by first | exact Or.inl rfl | exact Or.inr rfl) (de_kn (kn_row_at T) (hr.mono (by decide)) (by rfl) hx (da_cons (de_var 2 (pv 2)) (da_cons (de_var 9 (pv 9)) (da_cons (de_var 4 (pv 4)) da_nil))) (aCons_len (aCons_len (aCons_len aNil_len))))))
    (dss_cons (ds_fix [3] (ds_if (DW.dt (dw_or (dt_not (dt_val (de_kn (kn_law_is_row T) (hr.mono (by decide)) (by rfl) hx (da_cons (de_var 11 (pv 11)) (da_cons (de_callB call_lenA cd_len (by rfl) (T.free_len) (by decide +kernel) (da_cons (de_var 9 (pv 9)) da_nil)) (da_cons de_int da_nil))) (aCons_len (aCons_len (aCons_len aNil_len)))))) (dw_or1 (dt_cmp (op_neA hr.units) od_ne (de_var 11 (pv 11)) (de_ix (de_var 3 (pv 3)) (de_var 4 (pv 4)) (fun _ _ => rfl)) (nomark _))))) (dss_one (ds_ret de_bl)) dss_nil))
    (dss_cons (ds_fix [2, 3] (ds_set (i := 12) sc_law_k23.nd rfl (by first | exact Or.inl rfl | exact Or.inr rfl) (de_kn (kn_node_of T) (hr.mono (by decide)) (by rfl) hx (da_cons (de_var 2 (pv 2)) (da_cons (de_var 9 (pv 9)) (da_cons (de_ix (de_var 3 (pv 3)) (de_var 4 (pv 4)) (fun _ _ => rfl)) da_nil))) (aCons_len (aCons_len (aCons_len aNil_len))))))
    (dss_cons (ds_if (DW.dt (dw_or (dt_not (dt_val (de_kn (kn_law_whole T) (hr.mono (by decide)) (by rfl) hx (da_cons (de_var 12 (pv 12)) da_nil) (aCons_len aNil_len)))) (dw_or1 (dt_cmp (op_neA hr.units) od_ne (de_var 12 (pv 12)) (de_var 4 (pv 4)) (nomark _))))) (dss_one (ds_ret de_bl)) dss_nil)
    (dss_cons (ds_fix [2] (ds_set (i := 13) sc_law_k23.nd rfl (by first | exact Or.inl rfl | exact Or.inr rfl) (de_kn (kn_depth_of T) (hr.mono (by decide)) (by rfl) hx (da_cons (de_var 2 (pv 2)) (da_cons (de_var 4 (pv 4)) da_nil)) (aCons_len (aCons_len aNil_len)))))
    (dss_one (ds_fix [3] (ds_if (DW.dt (dw_or (dt_not (dt_val (de_kn (kn_law_whole T) (hr.mono (by decide)) (by rfl) hx (da_cons (de_var 13 (pv 13)) da_nil) (aCons_len aNil_len)))) (dw_or1 (dt_cmp (op_neA hr.units) od_ne (de_var 13 (pv 13)) (de_kn (kn_law_unlike T) (hr.mono (by decide)) (by rfl) hx (da_cons (de_var 9 (pv 9)) (da_cons (de_ix (de_var 3 (pv 3)) (de_var 4 (pv 4)) (fun _ _ => rfl)) da_nil)) (aCons_len (aCons_len aNil_len))) (nomark _))))) (dss_one (ds_ret de_bl)) dss_nil)))))))) bN_ne))
    (dss_cons (ds_fix [1] (ds_set (i := 5) sc_law_k23.nd rfl (by first | exact Or.inl rfl | exact Or.inr rfl) (de_op op_mod od_mod (de_kn (kn_law_cell T) (hr.mono (by decide)) (by rfl) hx (da_cons (de_var 0 (pv 0)) (da_cons de_int da_nil)) (aCons_len (aCons_len aNil_len))) (de_callB call_lenA cd_len (by rfl) (T.free_len) (by decide +kernel) (da_cons (de_var 1 (pv 1)) da_nil)))))
    (dss_cons (ds_fix [1] (ds_set (i := 6) sc_law_k23.nd rfl (by first | exact Or.inl rfl | exact Or.inr rfl) (de_op op_mod od_mod (de_kn (kn_law_cell T) (hr.mono (by decide)) (by rfl) hx (da_cons (de_var 0 (pv 0)) (da_cons de_int da_nil)) (aCons_len (aCons_len aNil_len))) (de_callB call_lenA cd_len (by rfl) (T.free_len) (by decide +kernel) (da_cons (de_var 1 (pv 1)) da_nil)))))
    (dss_cons (ds_fix [2] (ds_set (i := 7) sc_law_k23.nd rfl (by first | exact Or.inl rfl | exact Or.inr rfl) (de_kn (kn_between T) (hr.mono (by decide)) (by rfl) hx (da_cons (de_var 2 (pv 2)) (da_cons (de_var 5 (pv 5)) (da_cons (de_var 6 (pv 6)) da_nil))) (aCons_len (aCons_len (aCons_len aNil_len))))))
    (dss_cons (ds_fix [3] (ds_if (DW.dt (dw_or (dt_not (dt_val (de_kn (kn_law_whole T) (hr.mono (by decide)) (by rfl) hx (da_cons (de_var 7 (pv 7)) da_nil) (aCons_len aNil_len)))) (dw_or1 (dt_cmp (op_neA hr.units) od_ne (de_var 7 (pv 7)) (de_kn (kn_law_unlike T) (hr.mono (by decide)) (by rfl) hx (da_cons (de_ix (de_var 3 (pv 3)) (de_var 5 (pv 5)) (fun _ _ => rfl)) (da_cons (de_ix (de_var 3 (pv 3)) (de_var 6 (pv 6)) (fun _ _ => rfl)) da_nil)) (aCons_len (aCons_len aNil_len))) (nomark _))))) (dss_one (ds_ret de_bl)) dss_nil))
    (dss_cons (ds_fix [1, 2] (ds_if (DW.dt (dw_or (dt_cmp (op_neA hr.units) od_ne (de_kn (kn_between T) (hr.mono (by decide)) (by rfl) hx (da_cons (de_var 2 (pv 2)) (da_cons (de_var 6 (pv 6)) (da_cons (de_var 5 (pv 5)) da_nil))) (aCons_len (aCons_len (aCons_len aNil_len)))) (de_var 7 (pv 7)) (nomark _)) (dw_or (dt_cmp (op_neA hr.units) od_ne (de_kn (kn_between T) (hr.mono (by decide)) (by rfl) hx (da_cons (de_var 2 (pv 2)) (da_cons (de_var 5 (pv 5)) (da_cons (de_var 5 (pv 5)) da_nil))) (aCons_len (aCons_len (aCons_len aNil_len)))) de_int (nomark _)) (dw_or1 (dt_cmp (op_neA hr.units) od_ne (de_var 2 (pv 2)) (de_var 1 (pv 1)) (nomark _)))))) (dss_one (ds_ret de_bl)) dss_nil))
    (dss_cons (ds_set (i := 8) sc_law_k23.nd rfl (by first | exact Or.inl rfl | exact Or.inr rfl) (de_callTy call_tuple_of cd_tuple (by rfl) (T.free_tuple) (by decide +kernel) (da_cons (de_kn (kn_law_row T) (hr.mono (by decide)) (by rfl) hx (da_cons (de_kn (kn_law_cell T) (hr.mono (by decide)) (by rfl) hx (da_cons (de_var 0 (pv 0)) (da_cons de_int da_nil)) (aCons_len (aCons_len aNil_len))) (da_cons (de_callB call_lenA cd_len (by rfl) (T.free_len) (by decide +kernel) (da_cons (de_var 9 (pv 9)) da_nil)) (da_cons de_int da_nil))) (aCons_len (aCons_len (aCons_len aNil_len)))) da_nil)))
    (dss_cons (ds_fix [3] (ds_if (dt_cmp (op_inA (room65 hr)) od_in (de_var 8 (pv 8)) (de_var 3 (pv 3)) (by first | rfl | with_unfolding_all rfl)) (dss_one (ds_fix [2, 3] (ds_ret (de_cmp (op_eqA hr.units) od_eq (de_kn (kn_node_of T) (hr.mono (by decide)) (by rfl) hx (da_cons (de_var 2 (pv 2)) (da_cons (de_var 9 (pv 9)) (da_cons (de_var 8 (pv 8)) da_nil))) (aCons_len (aCons_len (aCons_len aNil_len)))) (de_index (have h65 := room65 hr; h65) (de_var 3 (pv 3)) (de_var 8 (pv 8)) (fun _ _ p q => pe_bm PySem.F.plainAttrs_list PySem.F.slot_list_index PySem.F.type_list_index (mt_indexD (have h65 := room65 hr; h65)) p q)) (nomark _))))) dss_nil))
    (dss_one (ds_fix [2] (ds_ret (de_cmp op_isN od_isN (de_kn (kn_node_of T) (hr.mono (by decide)) (by rfl) hx (da_cons (de_var 2 (pv 2)) (da_cons (de_var 9 (pv 9)) (da_cons (de_var 8 (pv 8)) da_nil))) (aCons_len (aCons_len (aCons_len aNil_len)))) de_non (nomark _)))))))))))))))))))
abbrev Rw : PySem.W.OpenRow := PySem.W.OpenLaw.row PySem.Challenge.rw_unmix_k23_nodes_and_ways_between
abbrev hkw : PySem.W.Hook := hookX 6 fcs fns tbs exC
def obw (s : PySem.W.SharedT) : AlX := obsX 6 fcs fns tbs exC (HandSHeadRun.getT s)
theorem obw_eq (s : PySem.W.SharedT) : obw s = hkw.obs s.abs := obsX_eq (HandSHeadRun.getT_eq s)
theorem runA (w : World) : HandSHeadRun.RunEq Rw (PySem.W.view Rw.prog [37]) hkw obw 6000 lnames (w.withFollow "special-get-raises" false) := by
  intro os
  kernel_rfl
theorem runB (w : World) : HandSHeadRun.RunEq Rw (PySem.W.view Rw.prog [37]) hkw obw 6000 lnames (w.withFollow "special-get-raises" true) := by
  intro os
  kernel_rfl
theorem run (w : World) : HandSHeadRun.RunEq Rw (PySem.W.view Rw.prog [37]) hkw obw 6000 lnames w := PySem.W.byRow2 "special-get-raises" runA runB w
/-- the promise of the law's def -/
def spL (K : PySem.W.Frag) : Sp := fun vs H Q _ => spD K 1 f_law_k23 vs H Q E0
theorem facts {P : Program} {w : World} {K : PySem.W.Frag} {h : Heap} {mg : Str → Option Value} {f : Addr} (X : K.In h) (G : h.Ns mainGlobals mg) (hfa : mg ("law" : Str) = some (.ref f)) (c : He.SaysT fcs fns tbs w K) (c2 : exC K = true) :
    ∃ fd : FuncData, (∀ (s : Shared) (v : Value), BindsTo s fd ⟨[v], []⟩ [("_law_script", v)]) ∧ ∀ base : Heap, K.In base → base.Ns mainGlobals mg → FnOk P w K mg base CX0 7 f fd ["_law_script"] (spL K) := by
  have T : Tx w K mg := ⟨c, c2, h, X, G⟩
  obtain ⟨fd, F⟩ := c.d.def_ 29 (d := dd ("law", none) "law" "law" s_law_k23) rfl
  have e := hfa.symm.trans T.glo_law
  cases e
  have b := FunD.bindsA (ps := ["_law_script"]) F fun _ _ _ _ _ _ us hl => match us, hl with | [_], _ => rfl
  exact ⟨fd, fun s v => b s [v] rfl, fun base _ _ => law_mk (N := N_law_k23) (ps := ["_law_script"]) F sc_law_k23 fun cdv A outer s H E hr => d_law T cdv A outer s H E hr⟩
/-- the law by data -/
def Good : Prop := ∀ ns : List Int, ns.length ≤ 63 → f_law_k23 [.dict [(.none, .list (ns.map PyData.int))]] = .ok (.dat (.bool true))
theorem good_sp (hgood : Good) {K : PySem.W.Frag} {H : Hp} {a : Addr} {ns : List Int} (hl : ns.length ≤ 63) (hS : SqL K H a (ns.map V.int)) : spL K [.ref a] H (fun v _ => v = .bl true) fun _ _ _ => False := by
  refine ⟨rfl, _, H, .refl H, .cons (.scr hS) .nil, ?_⟩
  rw [hgood ns hl]
  intro v B' H' g r
  cases r
  rfl
end Dl
open PySem PySem.W PySem.Calls PyProof.Rows
set_option maxHeartbeats 0 in
theorem Dl.law_holds (hgood : Dl.Good) : PySem.Challenge.rw_unmix_k23_nodes_and_ways_between.Holds := by
  w_on; o_law
  refine HandSHeadRun.head_any (r := OpenLaw.row PySem.Challenge.rw_unmix_k23_nodes_and_ways_between) (q := view (OpenLaw.row PySem.Challenge.rw_unmix_k23_nodes_and_ways_between).prog [37]) (H := Dl.hkw) (ob := Dl.obw) (M := 6000) (loose := Dl.lnames) (d := HandSHeadRun.topDef (OpenLaw.row PySem.Challenge.rw_unmix_k23_nodes_and_ways_between).prog 37) (kwd := []) Dl.obw_eq
    (by kernel_rfl) (fun s => by kernel_rfl) Dl.run (by kernel_rfl) (by kernel_rfl) (by kernel_rfl) (by rfl) (by first | assumption | decide +kernel) (by decide +kernel) ⟨rfl, rfl, rfl, rfl, rfl, by decide +kernel⟩ ?hw ?hc
  case hw => w_witness2
  case hc =>
    refine L2.walk_ofE (l := PySem.Challenge.rw_unmix_k23_nodes_and_ways_between) (n := 63) (k := 7) (x := "_law_script") (CX := L2.CX0) rfl (by decide) (by kernel_rfl) ⟨rfl, by decide, by decide⟩ ?F (fun _ _ _ _ z => z)
    intro w mg fa h Y G hmg0
    obtain ⟨K, KX, c, c2⟩ := Y
    have hmg : mg ("law" : PySem.Str) = some (.ref fa) := by
      have e : (HandSHeadRun.topDef (OpenLaw.row PySem.Challenge.rw_unmix_k23_nodes_and_ways_between).prog 37).name = ("law" : PySem.Str) := by kernel_rfl
      rw [← e]
      exact hmg0
    obtain ⟨fd, hb, hF⟩ := Dl.facts (P := (PySem.Challenge.rw_unmix_k23_nodes_and_ways_between).prog) (w := w) KX G hmg c c2
    exact ⟨K, fd, Dl.spL K, KX, hb, fun H a ns hl _ hS => Dl.good_sp hgood hl hS, hF⟩
theorem PySem.Challenge.cw_unmix_k23_nodes_and_ways_between_holds : PySem.Challenge.rw_unmix_k23_nodes_and_ways_between.Holds := by
  exact Dl.law_holds fun ns _ => Dl.good ns
