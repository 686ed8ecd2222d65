import PyProof.Rows.All
import Wide.All
import OpenK.AllK
import Wide.FinOn
import HandS.ForMost
import HandS.ForExc
import HandS.Walk
import HandS.Zip
import HandS.Defaults
import HandS.HeadHook1
import HandS.HeadHook2
import HandS.ExcCtx
import KE.GoesEnum
import KE.GoesMore
import HandS.RevRange
import HandS.Rev
import HandS.TupAny
import HandS.TupLe
import HandS.Wide
import HandS.Deep
import HandS.IsInst
import HandS.Conv
import HandS.Dict
import HandS.Head0
import HandS.Head1
import HandS.Head2
import HandS.HeadEnd
import HandS.RevTup
import KE.SortData
import HandS.SortInts
import HandS.ExcOwn
import HandS.WordsExc
import HandS.CallSlots
import HandS.TryOnly
import HandS.TryMany
import HandS.ExcIs
import HandS.More
import HandS.DictTup
import KE.KDictCopyH
import HandS.HeadHook3
import HandS.TupSets
import KE.DataMinMax
import KE.KDictOf
import KE.KDictWalk
import HandS.SetFor
import HandS.Strs
import HandS.SuiteRaise
import HandS.RaiseFrom
import HandS.Text
import HandS.RaiseMore
import KE.DataFind
import HandS.ReplaceLit
import PySem.Challenge.RW_unmix_k15_bars_walked
set_option Elab.async false
set_option linter.all false
set_option maxRecDepth 100000
set_option maxHeartbeats 4000000
/-! The data layer: a def's body read as a function from data to data. -/
namespace Dl
open PySem PySem.Spec PyProof.Rows L2
/-- what a piece of code does with data: stuck (nothing is claimed), an exception of the class named x, a value -/
inductive M (α : Type) where
  | stuck
  | exc (x : Str)
  | ok (a : α)
def M.bind {α β : Type} : M α → (α → M β) → M β
  | .stuck, _ => .stuck
  | .exc x, _ => .exc x
  | .ok a, f => f a
@[simp] theorem bind_ok {α β : Type} (a : α) (f : α → M β) : (M.ok a).bind f = f a := rfl
@[simp] theorem bind_exc {α β : Type} (x : Str) (f : α → M β) : (M.exc x : M α).bind f = .exc x := rfl
@[simp] theorem bind_stuck {α β : Type} (f : α → M β) : (M.stuck : M α).bind f = .stuck := rfl
def keyD : Key → PyData
  | .inl i => .int i
  | .inr x => .str x
/-! ### what stands for what -/
mutual
/-- the value v is the data d in the heap H -/
inductive R (K : PySem.W.Frag) (H : Hp) : V → PyData → Prop
  | non : R K H .non .none
  | bl (b : Bool) : R K H (.bl b) (.bool b)
  | int (i : Int) : R K H (.int i) (.int i)
  | str (x : Str) : R K H (.str x) (.str x)
  | lst {a : Addr} {xs : List V} {ds : List PyData} : H a = some (.lst xs) → RA K H xs ds → R K H (.ref a) (.list ds)
  | tup {a : Addr} {xs : List V} {ds : List PyData} : H a = some (.tup xs) → RA K H xs ds → R K H (.ref a) (.tuple ds)
  | tupF {a : Addr} {xs : List V} {ds : List PyData} : (∀ G : Hp, SqT K G a xs) → RA K H xs ds → R K H (.ref a) (.dict [(.bool false, .tuple ds)])
  | dK {a : Addr} {kvs : List (Key × V)} {vs : List PyData} : H a = some (.dK kvs) → RA K H (kvs.map (·.2)) vs → R K H (.ref a) (.dict ((kvs.map fun p => keyD p.1).zip vs))
  | dT {a : Addr} {kvs : List (List Key × V)} {vs : List PyData} : H a = some (.dT kvs) → RA K H (kvs.map (·.2)) vs → R K H (.ref a) (.dict ((PyData.bool true, PyData.none) :: (kvs.map fun p => PyData.tuple (p.1.map keyD)).zip vs))
  | ins {a dx : Addr} {x : Str} {fs : List (Str × V)} {vs : List PyData} : H a = some (.ins (He.ga K x) dx fs) → RA K H (fs.map (·.2)) vs → R K H (.ref a) (.dict ((.none, .str x) :: (fs.map fun p => PyData.str p.1).zip vs))
  /-- a list, a dict that is locked while it is told on -/
  | lk {a : Addr} {o : Obj} {xs : List V} {ds : List PyData} : H a = some (.frz o (.lst xs)) → RA K H xs ds → R K H (.ref a) (.dict [(.bool false, .list ds)])
  | lkK {a : Addr} {o : Obj} {kvs : List (Key × V)} {vs : List PyData} : H a = some (.frz o (.dK kvs)) → RA K H (kvs.map (·.2)) vs → R K H (.ref a) (.dict ((PyData.bool false, PyData.none) :: (kvs.map fun p => keyD p.1).zip vs))
  | scr {a : Addr} {ns : List Int} : SqL K H a (ns.map V.int) → R K H (.ref a) (.dict [(.none, .list (ns.map .int))])
inductive RA (K : PySem.W.Frag) (H : Hp) : List V → List PyData → Prop
  | nil : RA K H [] []
  | cons {v : V} {vs : List V} {d : PyData} {ds : List PyData} : R K H v d → RA K H vs ds → RA K H (v :: vs) (d :: ds)
end
def Ex (H H' : Hp) : Prop := ∀ a o, H a = some o → H' a = some o
theorem Ex.refl (H : Hp) : Ex H H := fun _ _ h => h
theorem Ex.trans {H H1 H2 : Hp} (a : Ex H H1) (b : Ex H1 H2) : Ex H H2 := fun x o h => b x o (a x o h)
theorem Ex.new {H : Hp} {p : Addr} {o : HO} (h : H p = none) : Ex H (upd H p o) := fun a u e => by
  rw [upd_ne (ne_of_none e h)]
  exact e
theorem Ex.back {H H' : Hp} {p : Addr} (e : Ex H H') (h : H' p = none) : H p = none := by
  cases h1 : H p with
  | none => rfl
  | some o =>
    rw [e p o h1] at h
    cases h
theorem Ex.same {H H' : Hp} (e : Ex H H') : Same H H' := e
theorem ex_t {K : PySem.W.Frag} {H H' : Hp} {a : Addr} {xs : List V} (e : Ex H H') (h : SqT K H a xs) : SqT K H' a xs := by
  rcases h with (h | ⟨o, h⟩) | h
  · exact .inl (.inl (e _ _ h))
  · exact .inl (.inr ⟨o, e _ _ h⟩)
  · exact .inr h
section
variable {K : PySem.W.Frag} {H H' : Hp}
theorem ex_u {K : PySem.W.Frag} {H H' : Hp} {a : Addr} {xs : List V} (e : Ex H H') (h : H a = some (.tup xs)) : SqT K H' a xs := .of (e _ _ h)
mutual
theorem R.mono (e : Ex H H') : ∀ {v : V} {d : PyData}, R K H v d → R K H' v d
  | _, _, .non => .non
  | _, _, .bl b => .bl b
  | _, _, .int i => .int i
  | _, _, .str x => .str x
  | _, _, .lst h r => .lst (e _ _ h) (RA.mono e r)
  | _, _, .tup h r => .tup (e _ _ h) (RA.mono e r)
  | _, _, .tupF h r => .tupF h (RA.mono e r)
  | _, _, .dK h r => .dK (e _ _ h) (RA.mono e r)
  | _, _, .dT h r => .dT (e _ _ h) (RA.mono e r)
  | _, _, .ins h r => .ins (e _ _ h) (RA.mono e r)
  | _, _, .scr h => .scr (Same.seq e h)
  | _, _, .lk h r => .lk (e _ _ h) (RA.mono e r)
  | _, _, .lkK h r => .lkK (e _ _ h) (RA.mono e r)
theorem RA.mono (e : Ex H H') : ∀ {vs : List V} {ds : List PyData}, RA K H vs ds → RA K H' vs ds
  | _, _, .nil => .nil
  | _, _, .cons r q => .cons (R.mono e r) (RA.mono e q)
end
theorem RA.length : ∀ {vs : List V} {ds : List PyData}, RA K H vs ds → vs.length = ds.length
  | _, _, .nil => rfl
  | _, _, .cons _ q => congrArg Nat.succ (RA.length q)
theorem RA.get : ∀ {vs : List V} {ds : List PyData} {i : Nat} {d : PyData}, RA K H vs ds → ds[i]? = some d → ∃ v, vs[i]? = some v ∧ R K H v d
  | _, _, 0, _, .cons r _, e => by
    simp at e
    subst e
    exact ⟨_, rfl, r⟩
  | _, _, i + 1, d, .cons _ q, e => by
    obtain ⟨v, h1, h2⟩ := RA.get (i := i) (d := d) q (by simpa using e)
    exact ⟨v, by simpa using h1, h2⟩
theorem RA.getV : ∀ {vs : List V} {ds : List PyData} {i : Nat} {v : V}, RA K H vs ds → vs[i]? = some v → ∃ d, ds[i]? = some d ∧ R K H v d
  | _, _, 0, _, .cons r _, e => by
    simp at e
    subst e
    exact ⟨_, rfl, r⟩
  | _, _, i + 1, v, .cons _ q, e => by
    obtain ⟨d, h1, h2⟩ := RA.getV (i := i) (v := v) q (by simpa using e)
    exact ⟨d, by simpa using h1, h2⟩
theorem RA.append : ∀ {vs ws : List V} {ds es : List PyData}, RA K H vs ds → RA K H ws es → RA K H (vs ++ ws) (ds ++ es)
  | _, _, _, _, .nil, s => s
  | _, _, _, _, .cons r t, s => .cons r (RA.append t s)
theorem RA.take : ∀ {vs : List V} {ds : List PyData} (n : Nat), RA K H vs ds → RA K H (vs.take n) (ds.take n)
  | _, _, 0, _ => .nil
  | _, _, _ + 1, .nil => .nil
  | _, _, n + 1, .cons r t => .cons r (RA.take n t)
theorem RA.drop : ∀ {vs : List V} {ds : List PyData} (n : Nat), RA K H vs ds → RA K H (vs.drop n) (ds.drop n)
  | _, _, 0, r => r
  | _, _, _ + 1, .nil => .nil
  | _, _, n + 1, .cons _ t => RA.drop n t
theorem RA.set : ∀ {vs : List V} {ds : List PyData} {v : V} {d : PyData} (i : Nat), RA K H vs ds → R K H v d → RA K H (vs.set i v) (ds.set i d)
  | _, _, _, _, _, .nil, _ => .nil
  | _, _, _, _, 0, .cons _ t, q => .cons q t
  | _, _, _, _, i + 1, .cons r t, q => .cons r (RA.set i t q)
theorem RA.eraseIdx : ∀ {vs : List V} {ds : List PyData} (i : Nat), RA K H vs ds → RA K H (vs.eraseIdx i) (ds.eraseIdx i)
  | _, _, _, .nil => .nil
  | _, _, 0, .cons _ t => t
  | _, _, i + 1, .cons r t => .cons r (RA.eraseIdx i t)
theorem RA.dropLast {vs : List V} {ds : List PyData} (r : RA K H vs ds) : RA K H vs.dropLast ds.dropLast := by
  rw [List.dropLast_eq_take, List.dropLast_eq_take, r.length]
  exact r.take _
theorem RA.snoc {vs : List V} {ds : List PyData} {v : V} {d : PyData} (r : RA K H vs ds) (q : R K H v d) : RA K H (vs ++ [v]) (ds ++ [d]) := r.append (.cons q .nil)
theorem ra_ints : ∀ ns : List Int, RA K H (ns.map V.int) (ns.map PyData.int)
  | [] => .nil
  | n :: ns => .cons (.int n) (ra_ints ns)
theorem RA.bools : ∀ {vs : List V} {bs : List Bool}, RA K H vs (bs.map PyData.bool) → vs = bs.map V.bl
  | _, [], .nil => rfl
  | _, n :: ns, .cons r t => by
    cases r
    rw [RA.bools t]
    rfl
end
/-! ### the deep data of HandS -/
section
variable {K : PySem.W.Frag} {H : Hp}
mutual
theorem R.dp : ∀ {v : V} {d : PyData}, R K H v d → d.canLay0 = true → Dp K H v d
  | _, _, .non, _ => .non
  | _, _, .bl b, _ => .bl b
  | _, _, .int i, _ => .int i
  | _, _, .str x, _ => .str x
  | _, _, .lst h r, c => .lst (.of h) (RA.dp r (by simpa [PyData.canLay0] using c))
  | _, _, .tup h r, c => .tup (.of h) (RA.dp r (by simpa [PyData.canLay0] using c))
  | _, _, .tupF h r, c => by simp [PyData.canLay0] at c
  | _, _, .dK h r, c => by simp [PyData.canLay0] at c
  | _, _, .dT h r, c => by simp [PyData.canLay0] at c
  | _, _, .ins h r, c => by simp [PyData.canLay0] at c
  | _, _, .scr h, c => by simp [PyData.canLay0] at c
  | _, _, .lk _ _, c => by simp [PyData.canLay0] at c
  | _, _, .lkK _ _, c => by simp [PyData.canLay0] at c
theorem RA.dp : ∀ {vs : List V} {ds : List PyData}, RA K H vs ds → PyData.canLayAll0 ds = true → DpAll K H vs ds
  | _, _, .nil, _ => .nil
  | _, _, .cons r q, c => by
    rw [PyData.canLayAll0, Bool.and_eq_true] at c
    exact .cons (R.dp r c.1) (RA.dp q c.2)
end
end
/-! ### the heap's halves: B is what is fixed, H all; how they grow -/
structure Gr (B H B' H' : Hp) : Prop where
  b : Ex B B'
  h : Ex H H'
  s : Ex B' H'
  l : ∀ a o, H a = some o → B a = none → B' a = none ∨ ∃ xs, o = .tup xs
theorem Gr.refl {B H : Hp} (e : Ex B H) : Gr B H B H := ⟨.refl _, .refl _, e, fun _ _ _ h => .inl h⟩
/-- what is no tuple does not become fixed -/
theorem Gr.lm {B H B' H' : Hp} (g : Gr B H B' H') {a : Addr} {o : HO} (h : H a = some o) (n : B a = none) (t : ∀ xs, o ≠ .tup xs) : B' a = none := (g.l a o h n).resolve_right fun ⟨xs, e⟩ => t xs e
theorem Gr.trans {B H B1 H1 B2 H2 : Hp} (x : Gr B H B1 H1) (y : Gr B1 H1 B2 H2) : Gr B H B2 H2 :=
  ⟨x.b.trans y.b, x.h.trans y.h, y.s, fun a o h n => (x.l a o h n).elim (fun m => y.l a o (x.h a o h) m) .inr⟩
/-- a new object, fixed at once -/
theorem Gr.new {B H : Hp} {p : Addr} {o : HO} (e : Ex B H) (h : H p = none) : Gr B H (upd B p o) (upd H p o) := by
  have hb : B p = none := e.back h
  refine ⟨.new hb, .new h, fun a u q => ?_, fun a u q n => ?_⟩
  · by_cases z : a = p
    · subst z
      rw [upd_same] at q ⊢
      exact q
    · rw [upd_ne z] at q ⊢
      exact e a u q
  · rw [upd_ne (ne_of_none q h)]
    exact .inl n
/-- a new object that may still change -/
theorem Gr.own {B H : Hp} {p : Addr} {o : HO} (e : Ex B H) (h : H p = none) : Gr B H B (upd H p o) := ⟨.refl _, .new h, e.trans (.new h), fun _ _ _ n => .inl n⟩
/-! ### values of expressions: fixed data, or a new object of one's own -/
inductive Sl where
  | dat (d : PyData)
  | own (d : PyData)
def Sl.d : Sl → PyData
  | .dat d => d
  | .own d => d
@[simp] theorem Sl.d_dat (d : PyData) : (Sl.dat d).d = d := rfl
@[simp] theorem Sl.d_own (d : PyData) : (Sl.own d).d = d := rfl
abbrev Env := List (Option Sl)
/-- at p there stands d, its items in B -/
inductive Top (K : PySem.W.Frag) (B : Hp) : HO → PyData → Prop
  | lst {xs : List V} {ds : List PyData} : RA K B xs ds → Top K B (.lst xs) (.list ds)
  | dK {kvs : List (Key × V)} {vs : List PyData} : RA K B (kvs.map (·.2)) vs → Top K B (.dK kvs) (.dict ((kvs.map fun p => keyD p.1).zip vs))
  | dT {kvs : List (List Key × V)} {vs : List PyData} : RA K B (kvs.map (·.2)) vs → Top K B (.dT kvs) (.dict ((PyData.bool true, PyData.none) :: (kvs.map fun p => PyData.tuple (p.1.map keyD)).zip vs))
theorem Top.mono {K : PySem.W.Frag} {B B' : Hp} {o : HO} {d : PyData} (e : Ex B B') (t : Top K B o d) : Top K B' o d := by
  cases t with
  | lst r => exact .lst (r.mono e)
  | dK r => exact .dK (r.mono e)
  | dT r => exact .dT (r.mono e)
theorem Top.r {K : PySem.W.Frag} {B : Hp} {o : HO} {d : PyData} {p : Addr} (t : Top K B o d) (h : B p = some o) : R K B (.ref p) d := by
  cases t with
  | lst r => exact .lst h r
  | dK r => exact .dK h r
  | dT r => exact .dT h r
theorem Top.noT {K : PySem.W.Frag} {B : Hp} {o : HO} {d : PyData} (t : Top K B o d) : ∀ xs, o ≠ .tup xs := by
  cases t <;> exact fun _ h => nomatch h
/-- v is the value sl: H the heap ahead -/
def Res (K : PySem.W.Frag) (H B' H' : Hp) (v : V) : Sl → Prop
  | .dat d => R K B' v d
  | .own d => ∃ p o, v = .ref p ∧ H p = none ∧ B' p = none ∧ H' p = some o ∧ Top K B' o d
/-- made fixed -/
theorem Res.fix {K : PySem.W.Frag} {B H B' H' : Hp} {v : V} {sl : Sl} (g : Gr B H B' H') (r : Res K H B' H' v sl) : ∃ B2, Gr B H B2 H' ∧ R K B2 v sl.d := by
  cases sl with
  | dat d => exact ⟨B', g, r⟩
  | own d =>
    obtain ⟨p, o, rfl, n, nb, e, t⟩ := r
    have x : Ex B' (upd B' p o) := .new nb
    refine ⟨upd B' p o, ⟨g.b.trans x, g.h, fun a u q => ?_, fun a u q m => ?_⟩, (t.mono x).r upd_same⟩
    · by_cases z : a = p
      · subst z
        rw [upd_same] at q
        rw [e]
        exact q
      · rw [upd_ne z] at q
        exact g.s a u q
    · rw [upd_ne (ne_of_none q n)]
      exact g.l a u q m
theorem Res.later {K : PySem.W.Frag} {H0 H B' H' : Hp} {v : V} {sl : Sl} (e : Ex H0 H) (r : Res K H B' H' v sl) : Res K H0 B' H' v sl := by
  cases sl with
  | dat d => exact r
  | own d =>
    obtain ⟨p, o, h1, h2, h3⟩ := r
    exact ⟨p, o, h1, e.back h2, h3⟩
/-! ### the slots -/
structure ER (K : PySem.W.Frag) (B0 H0 B H : Hp) (σ : L2.St) (ρ : Env) : Prop where
  gr : Gr B0 H0 B H
  len : σ.length = ρ.length
  dat : ∀ (i : Nat) d, ρ[i]? = some (some (.dat d)) → ∃ v, σ[i]? = some (some v) ∧ R K B v d
  own : ∀ (i : Nat) d, ρ[i]? = some (some (.own d)) → ∃ p o, σ[i]? = some (some (.ref p)) ∧ H0 p = none ∧ B p = none ∧ H p = some o ∧ Top K B o d
  sep : ∀ (i j : Nat) d e p, ρ[i]? = some (some (.own d)) → ρ[j]? = some (some (.own e)) → σ[i]? = some (some (.ref p)) → σ[j]? = some (some (.ref p)) → i = j
section
variable {K : PySem.W.Frag} {B0 H0 B H B' H' : Hp} {σ : L2.St} {ρ : Env}
theorem ER.grow (r : ER K B0 H0 B H σ ρ) (g : Gr B H B' H') : ER K B0 H0 B' H' σ ρ where
  gr := r.gr.trans g
  len := r.len
  dat := fun i d e => let ⟨v, h1, h2⟩ := r.dat i d e; ⟨v, h1, h2.mono g.b⟩
  own := fun i d e => let ⟨p, o, h1, h2, h3, h4, h5⟩ := r.own i d e; ⟨p, o, h1, h2, g.lm h4 h3 h5.noT, g.h p o h4, h5.mono g.b⟩
  sep := r.sep
/-- a slot is stored -/
theorem ER.put {v : V} {sl : Sl} {i : Nat} (r : ER K B0 H0 B H σ ρ) (g : Gr B H B' H') (q : Res K H B' H' v sl) : ER K B0 H0 B' H' (σ.set i (some v)) (ρ.set i (some sl)) := by
  have r' := r.grow g
  refine ⟨r'.gr, by rw [List.length_set, List.length_set]; exact r.len, fun j d e => ?_, fun j d e => ?_, fun j k d e p h1 h2 h3 h4 => ?_⟩
  · by_cases z : i = j
    · subst z
      have hl : i < ρ.length := by
        have := (List.getElem?_eq_some_iff.mp e).1
        simpa using this
      rw [List.getElem?_set_self hl] at e
      cases e
      exact ⟨v, List.getElem?_set_self (by rw [r.len]; exact hl), q⟩
    · rw [List.getElem?_set_ne z] at e ⊢
      exact r'.dat j d e
  · by_cases z : i = j
    · subst z
      have hl : i < ρ.length := by
        have := (List.getElem?_eq_some_iff.mp e).1
        simpa using this
      rw [List.getElem?_set_self hl] at e
      cases e
      obtain ⟨p, o, rfl, n, nb, hp, t⟩ := q
      exact ⟨p, o, List.getElem?_set_self (by rw [r.len]; exact hl), r.gr.h.back n, nb, hp, t⟩
    · rw [List.getElem?_set_ne z] at e ⊢
      exact r'.own j d e
  · have key : ∀ (j : Nat) d, i ≠ j → (ρ.set i (some sl))[j]? = some (some (.own d)) → (σ.set i (some v))[j]? = some (some (.ref p)) → Res K H B' H' v sl → v = .ref p → sl.d = sl.d → (∃ e, sl = .own e) → False := by
      intro j d z e1 e2 q hv _ ⟨e, hs⟩
      subst hs
      obtain ⟨p', o, hv', n, _⟩ := q
      rw [hv] at hv'
      cases hv'
      rw [List.getElem?_set_ne z] at e1 e2
      obtain ⟨p2, o2, h1, _, _, h4, _⟩ := r.own j d e1
      rw [e2] at h1
      cases h1
      rw [n] at h4
      cases h4
    by_cases z1 : i = j
    · by_cases z2 : i = k
      · rw [← z1, ← z2]
      · exfalso
        subst z1
        have hl : i < ρ.length := by
          have := (List.getElem?_eq_some_iff.mp h1).1
          simpa using this
        rw [List.getElem?_set_self hl] at h1
        rw [List.getElem?_set_self (by rw [r.len]; exact hl)] at h3
        cases h1
        cases h3
        exact key k e z2 h2 h4 q rfl rfl ⟨_, rfl⟩
    · by_cases z2 : i = k
      · exfalso
        subst z2
        have hl : i < ρ.length := by
          have := (List.getElem?_eq_some_iff.mp h2).1
          simpa using this
        rw [List.getElem?_set_self hl] at h2
        rw [List.getElem?_set_self (by rw [r.len]; exact hl)] at h4
        cases h2
        cases h4
        exact key j d z1 h1 h3 q rfl rfl ⟨_, rfl⟩
      · rw [List.getElem?_set_ne z1] at h1 h3
        rw [List.getElem?_set_ne z2] at h2 h4
        exact r.sep j k d e p h1 h2 h3 h4
/-- a slot is forgotten -/
theorem ER.drop {i : Nat} {o : Option V} (r : ER K B0 H0 B H σ ρ) : ER K B0 H0 B H (σ.set i o) (ρ.set i none) := by
  refine ⟨r.gr, by rw [List.length_set, List.length_set]; exact r.len, fun j d e => ?_, fun j d e => ?_, fun j k d e p h1 h2 h3 h4 => ?_⟩
  · by_cases z : i = j
    · subst z
      have hl : i < ρ.length := by
        have := (List.getElem?_eq_some_iff.mp e).1
        simpa using this
      rw [List.getElem?_set_self hl] at e
      cases e
    · rw [List.getElem?_set_ne z] at e ⊢
      exact r.dat j d e
  · by_cases z : i = j
    · subst z
      have hl : i < ρ.length := by
        have := (List.getElem?_eq_some_iff.mp e).1
        simpa using this
      rw [List.getElem?_set_self hl] at e
      cases e
    · rw [List.getElem?_set_ne z] at e ⊢
      exact r.own j d e
  · have ne : ∀ (j : Nat) d, (ρ.set i none)[j]? = some (some (.own d)) → i ≠ j := by
      intro j d e z
      subst z
      have hl : i < ρ.length := by
        have := (List.getElem?_eq_some_iff.mp e).1
        simpa using this
      rw [List.getElem?_set_self hl] at e
      cases e
    have z1 := ne j d h1
    have z2 := ne k e h2
    rw [List.getElem?_set_ne z1] at h1 h3
    rw [List.getElem?_set_ne z2] at h2 h4
    exact r.sep j k d e p h1 h2 h3 h4
/-- an owned slot is fixed -/
def Env.fix (ρ : Env) (i : Nat) : Env := match ρ[i]? with
  | some (some (.own d)) => ρ.set i (some (.dat d))
  | _ => ρ
def Own (o : HO) : Prop := match o with
  | .lst _ => True
  | .dK _ => True
  | .dT _ => True
  | _ => False
theorem Top.ownO {o : HO} {d : PyData} (t : Top K B o d) : Own o := by cases t <;> trivial
theorem ER.fix {i : Nat} (r : ER K B0 H0 B H σ ρ) : ∃ B2, (∀ a o, B2 a = some o → B a = some o ∨ Own o) ∧ Ex B B2 ∧ ER K B0 H0 B2 H σ (ρ.fix i) := by
  unfold Env.fix
  split
  · rename_i d e
    obtain ⟨p, o, h1, h2, h3, h4, h5⟩ := r.own i d e
    have x : Ex B (upd B p o) := .new h3
    have g : Gr B0 H0 (upd B p o) H := by
      refine ⟨r.gr.b.trans x, r.gr.h, fun a u q => ?_, fun a u q n => ?_⟩
      · by_cases z : a = p
        · subst z
          rw [upd_same] at q
          rw [h4]
          exact q
        · rw [upd_ne z] at q
          exact r.gr.s a u q
      · rw [upd_ne (ne_of_none q h2)]
        exact r.gr.l a u q n
    have hl : i < ρ.length := (List.getElem?_eq_some_iff.mp e).1
    refine ⟨upd B p o, fun a u q => ?_, x, g, by rw [List.length_set]; exact r.len, fun j c q => ?_, fun j c q => ?_, fun j k c c' p' q1 q2 q3 q4 => ?_⟩
    · by_cases z : a = p
      · subst z
        rw [upd_same] at q
        cases q
        exact .inr h5.ownO
      · rw [upd_ne z] at q
        exact .inl q
    · by_cases z : i = j
      · subst z
        rw [List.getElem?_set_self hl] at q
        cases q
        exact ⟨_, h1, (h5.mono x).r upd_same⟩
      · rw [List.getElem?_set_ne z] at q
        obtain ⟨v, k1, k2⟩ := r.dat j c q
        exact ⟨v, k1, k2.mono x⟩
    · by_cases z : i = j
      · subst z
        rw [List.getElem?_set_self hl] at q
        cases q
      · rw [List.getElem?_set_ne z] at q
        obtain ⟨p2, o2, k1, k2, k3, k4, k5⟩ := r.own j c q
        have ne : p2 ≠ p := by
          intro zz
          subst zz
          exact z (r.sep i j d c p2 e q h1 k1)
        exact ⟨p2, o2, k1, k2, by rw [upd_ne ne]; exact k3, k4, k5.mono x⟩
    · have ne : ∀ (j : Nat) c, (ρ.set i (some (.dat d)))[j]? = some (some (.own c)) → i ≠ j := by
        intro j c q z
        subst z
        rw [List.getElem?_set_self hl] at q
        cases q
      have z1 := ne j c q1
      have z2 := ne k c' q2
      rw [List.getElem?_set_ne z1] at q1
      rw [List.getElem?_set_ne z2] at q2
      exact r.sep j k c c' p' q1 q2 q3 q4
  · exact ⟨B, fun a o h => .inl h, .refl _, r⟩
/-- all owned slots fixed -/
def pubS : Option Sl → Option Sl
  | some (.own d) => some (.dat d)
  | x => x
def Env.pub (ρ : Env) : Env := ρ.map pubS
end
end Dl
/-! The data layer: judgements. -/
namespace Dl
open PySem PySem.Spec PyProof.Rows L2
/-! ### what is wanted of a piece of code, by what it does with data -/
def EPost (K : PySem.W.Frag) (E : XK) (B H : Hp) (r : M Sl) (Q : VK) : Prop := match r with
  | .stuck => False
  | .exc x => ∀ H', Ex H H' → E (.ref (He.ga K x)) none H'
  | .ok sl => ∀ v B' H', Gr B H B' H' → Res K H B' H' v sl → Q v H'
def TPost (K : PySem.W.Frag) (E : XK) (B H : Hp) (r : M Bool) (Q : Bool → Hp → Prop) : Prop := match r with
  | .stuck => False
  | .exc x => ∀ H', Ex H H' → E (.ref (He.ga K x)) none H'
  | .ok b => ∀ B' H', Gr B H B' H' → Q b H'
def APost (K : PySem.W.Frag) (E : XK) (B H : Hp) (r : M (List PyData)) (Q : List V → Hp → Prop) : Prop := match r with
  | .stuck => False
  | .exc x => ∀ H', Ex H H' → E (.ref (He.ga K x)) none H'
  | .ok ds => ∀ vs B' H', Gr B H B' H' → RA K B' vs ds → Q vs H'
/-- an expression; a test; arguments -/
def DE (X : Cx) (E : XK) (e : Expr) (f : Env → M Sl) : Prop := ∃ t, PE X e t ∧ ∀ B0 H0 B H σ ρ Q, ER X.K B0 H0 B H σ ρ → EPost X.K E B H (f ρ) Q → t σ H Q
def DT (X : Cx) (E : XK) (e : Expr) (f : Env → M Bool) : Prop := ∃ t, PT X e t ∧ ∀ B0 H0 B H σ ρ Q, ER X.K B0 H0 B H σ ρ → TPost X.K E B H (f ρ) Q → t σ H Q
def DW (X : Cx) (E : XK) (e : Expr) (f : Env → M Bool) : Prop := ∃ t, PW X e t ∧ ∀ B0 H0 B H σ ρ Q, ER X.K B0 H0 B H σ ρ → TPost X.K E B H (f ρ) Q → t σ H Q
def DA (X : Cx) (E : XK) (es : List Expr) (f : Env → M (List PyData)) : Prop := ∃ t, PA X es t ∧ ∀ B0 H0 B H σ ρ Q, ER X.K B0 H0 B H σ ρ → APost X.K E B H (f ρ) Q → t σ H Q
section
variable {X : Cx} {E : XK} {K : PySem.W.Frag} {B H B' H' : Hp}
theorem EPost.grow {r : M Sl} {Q : VK} (g : Gr B H B' H') (h : EPost K E B H r Q) : EPost K E B' H' r Q := by
  cases r with
  | stuck => exact h
  | exc x => exact fun H2 e => h H2 (g.h.trans e)
  | ok sl => exact fun v B2 H2 g2 q => h v B2 H2 (g.trans g2) (q.later g.h)
theorem TPost.grow {r : M Bool} {Q : Bool → Hp → Prop} (g : Gr B H B' H') (h : TPost K E B H r Q) : TPost K E B' H' r Q := by
  cases r with
  | stuck => exact h
  | exc x => exact fun H2 e => h H2 (g.h.trans e)
  | ok sl => exact fun B2 H2 g2 => h B2 H2 (g.trans g2)
theorem APost.grow {r : M (List PyData)} {Q : List V → Hp → Prop} (g : Gr B H B' H') (h : APost K E B H r Q) : APost K E B' H' r Q := by
  cases r with
  | stuck => exact h
  | exc x => exact fun H2 e => h H2 (g.h.trans e)
  | ok sl => exact fun v B2 H2 g2 q => h v B2 H2 (g.trans g2) q
/-- a value that needs no object, given at once -/
theorem EPost.val {v : V} {d : PyData} {Q : VK} (e : Ex B H) (r : R K B v d) (h : EPost K E B H (.ok (.dat d)) Q) : Q v H := h v B H (.refl e) r
/-- a new fixed object -/
theorem EPost.new {p : Addr} {o : HO} {d : PyData} {Q : VK} (e : Ex B H) (n : H p = none) (r : R K (upd B p o) (.ref p) d) (h : EPost K E B H (.ok (.dat d)) Q) : Q (.ref p) (upd H p o) := h _ _ _ (.new e n) r
/-- a new object of one's own -/
theorem EPost.own {p : Addr} {o : HO} {d : PyData} {Q : VK} (e : Ex B H) (n : H p = none) (r : Top K B o d) (h : EPost K E B H (.ok (.own d)) Q) : Q (.ref p) (upd H p o) :=
  h _ _ _ (.own e n) ⟨p, o, rfl, n, e.back n, upd_same, r⟩
theorem EPost.bind {α : Type} {r : M α} {g : α → M Sl} {Q : VK} (h : EPost K E B H (r.bind g) Q) : (∃ a, r = .ok a ∧ EPost K E B H (g a) Q) ∨ ∃ x, r = .exc x ∧ ∀ H', Ex H H' → E (.ref (He.ga K x)) none H' := by
  cases r with
  | stuck => exact h.elim
  | exc x => exact .inr ⟨x, rfl, h⟩
  | ok a => exact .inl ⟨a, rfl, h⟩
theorem TPost.bind {α : Type} {r : M α} {g : α → M Bool} {Q : Bool → Hp → Prop} (h : TPost K E B H (r.bind g) Q) : (∃ a, r = .ok a ∧ TPost K E B H (g a) Q) ∨ ∃ x, r = .exc x ∧ ∀ H', Ex H H' → E (.ref (He.ga K x)) none H' := by
  cases r with
  | stuck => exact h.elim
  | exc x => exact .inr ⟨x, rfl, h⟩
  | ok a => exact .inl ⟨a, rfl, h⟩
theorem APost.bind {α : Type} {r : M α} {g : α → M (List PyData)} {Q : List V → Hp → Prop} (h : APost K E B H (r.bind g) Q) : (∃ a, r = .ok a ∧ APost K E B H (g a) Q) ∨ ∃ x, r = .exc x ∧ ∀ H', Ex H H' → E (.ref (He.ga K x)) none H' := by
  cases r with
  | stuck => exact h.elim
  | exc x => exact .inr ⟨x, rfl, h⟩
  | ok a => exact .inl ⟨a, rfl, h⟩
end
/-- an expression's run, seen from what comes behind it: the value fixed -/
theorem run_e {X : Cx} {E : XK} {f : Env → M Sl} {t : TE} (h : ∀ B0 H0 B H σ ρ Q, ER X.K B0 H0 B H σ ρ → EPost X.K E B H (f ρ) Q → t σ H Q)
    {B0 H0 B H : Hp} {σ : L2.St} {ρ : Env} {Q : VK} (r : ER X.K B0 H0 B H σ ρ) (hf : (∃ sl, f ρ = .ok sl ∧ ∀ v B' H', Gr B H B' H' → R X.K B' v sl.d → Q v H') ∨ ∃ x, f ρ = .exc x ∧ ∀ H', Ex H H' → E (.ref (He.ga X.K x)) none H') : t σ H Q := by
  rcases hf with ⟨sl, e1, k⟩ | ⟨x, e1, k⟩
  · refine h B0 H0 B H σ ρ Q r ?_
    rw [e1]
    intro v B' H' g q
    obtain ⟨B2, g2, r2⟩ := q.fix g
    exact k v B2 H' g2 r2
  · refine h B0 H0 B H σ ρ Q r ?_
    rw [e1]
    exact k
section
variable {X : Cx} {E : XK} {a b c e o : Expr} {es : List Expr} {fa fb fc : Env → M Sl} {pos : Pos}
/-! ### names, constants -/
def eVar (i : Nat) : Env → M Sl := fun ρ => match ρ[i]? with
  | some (some (.dat d)) => .ok (.dat d)
  | _ => .stuck
def eC (d : PyData) : Env → M Sl := fun _ => .ok (.dat d)
theorem de_var (i : Nat) (h : PE X e (tVar i)) : DE X E e (eVar i) := by
  refine ⟨_, h, fun B0 H0 B H σ ρ Q r q => ?_⟩
  unfold eVar at q
  split at q
  · rename_i d hd
    obtain ⟨v, h1, h2⟩ := r.dat i d hd
    exact ⟨v, h1, q v B H (.refl r.gr.s) h2⟩
  · exact q.elim
theorem de_c {v : V} {d : PyData} (h : PE X e (tC v)) (r : ∀ K H, R K H v d) : DE X E e (eC d) :=
  ⟨_, h, fun B0 H0 B H σ ρ Q r' q => q v B H (.refl r'.gr.s) (r _ _)⟩
theorem de_int {i : Int} {j} : DE X E (.Constant (.int i) j pos) (eC (.int i)) := de_c pe_int fun _ _ => .int i
theorem de_bl {i : Bool} {j} : DE X E (.Constant (.bool i) j pos) (eC (.bool i)) := de_c pe_bl fun _ _ => .bl i
theorem de_non {j} : DE X E (.Constant .none j pos) (eC .none) := de_c pe_non fun _ _ => .non
theorem de_str {x : Str} {j} : DE X E (.Constant (.str x) j pos) (eC (.str x)) := de_c pe_str fun _ _ => .str x
/-! ### operators by values -/
def OpD (X : Cx) (E : XK) (r : R2) (g : PyData → PyData → M Sl) : Prop := ∀ x y d e B H Q, Ex B H → R X.K B x d → R X.K B y e → EPost X.K E B H (g d e) Q → r x y H Q
def UnD (X : Cx) (E : XK) (r : V → Hp → VK → Prop) (g : PyData → M Sl) : Prop := ∀ x d B H Q, Ex B H → R X.K B x d → EPost X.K E B H (g d) Q → r x H Q
def CallD (X : Cx) (E : XK) (r : List V → Hp → VK → Prop) (g : List PyData → M Sl) : Prop := ∀ xs ds B H Q, Ex B H → RA X.K B xs ds → EPost X.K E B H (g ds) Q → r xs H Q
def eOp (g : PyData → PyData → M Sl) (fa fb : Env → M Sl) : Env → M Sl := fun ρ => (fa ρ).bind fun x => (fb ρ).bind fun y => g x.d y.d
def eUn (g : PyData → M Sl) (fa : Env → M Sl) : Env → M Sl := fun ρ => (fa ρ).bind fun x => g x.d
theorem run_op {r : R2} {g : PyData → PyData → M Sl} {ta tb : TE} (hg : OpD X E r g)
    (ha : ∀ B0 H0 B H σ ρ Q, ER X.K B0 H0 B H σ ρ → EPost X.K E B H (fa ρ) Q → ta σ H Q) (hb : ∀ B0 H0 B H σ ρ Q, ER X.K B0 H0 B H σ ρ → EPost X.K E B H (fb ρ) Q → tb σ H Q) :
    ∀ B0 H0 B H σ ρ Q, ER X.K B0 H0 B H σ ρ → EPost X.K E B H (eOp g fa fb ρ) Q → tOp r ta tb σ H Q := by
  intro B0 H0 B H σ ρ Q re q
  refine run_e ha re ?_
  rcases q.bind with ⟨x, e1, q⟩ | ⟨x, e1, q⟩
  · refine .inl ⟨x, e1, fun v B1 H1 g1 r1 => ?_⟩
    have q := q.grow g1
    refine run_e hb (re.grow g1) ?_
    rcases q.bind with ⟨y, e2, q⟩ | ⟨y, e2, q⟩
    · exact .inl ⟨y, e2, fun u B2 H2 g2 r2 => hg v u x.d y.d B2 H2 Q g2.s (r1.mono g2.b) r2 (q.grow g2)⟩
    · exact .inr ⟨y, e2, q⟩
  · exact .inr ⟨x, e1, q⟩
theorem de_op {op : Operator} {r : R2} {g : PyData → PyData → M Sl} (ho : OpR X (binaryOp op) r) (hg : OpD X E r g) (ha : DE X E a fa) (hb : DE X E b fb) : DE X E (.BinOp a op b pos) (eOp g fa fb) := by
  obtain ⟨ta, pa, ha⟩ := ha
  obtain ⟨tb, pb, hb⟩ := hb
  exact ⟨_, pe_op ho pa pb, run_op hg ha hb⟩
theorem de_un {op : UnaryOp} {r : V → Hp → VK → Prop} {g : PyData → M Sl} (ho : UnR X (unaryOp op) r) (hg : UnD X E r g) (ha : DE X E a fa) : DE X E (.UnaryOp op a pos) (eUn g fa) := by
  obtain ⟨ta, pa, ha⟩ := ha
  refine ⟨_, pe_un ho pa, fun B0 H0 B H σ ρ Q re q => ?_⟩
  refine run_e ha re ?_
  rcases q.bind with ⟨x, e1, q⟩ | ⟨x, e1, q⟩
  · exact .inl ⟨x, e1, fun v B1 H1 g1 r1 => hg v x.d B1 H1 Q g1.s r1 (q.grow g1)⟩
  · exact .inr ⟨x, e1, q⟩
theorem de_cmp {op : CmpOp} {r : R2} {g : PyData → PyData → M Sl} (ho : OpR X (compareOp op) r) (hg : OpD X E r g) (ha : DE X E a fa) (hb : DE X E b fb) (hm : behindInMarks op b = false) : DE X E (.Compare a [op] [b] pos) (eOp g fa fb) := by
  obtain ⟨ta, pa, ha⟩ := ha
  obtain ⟨tb, pb, hb⟩ := hb
  exact ⟨_, pe_cmpR ho pa pb hm, run_op hg ha hb⟩
/-- a bool among data -/
def isB : PyData → M Bool
  | .bool b => .ok b
  | _ => .stuck
def tOf (f : Env → M Sl) : Env → M Bool := fun ρ => (f ρ).bind fun x => isB x.d
theorem isB_ok {d : PyData} {b : Bool} {K : PySem.W.Frag} {B : Hp} {v : V} (h : isB d = .ok b) (r : R K B v d) : v = .bl b := by
  cases r <;> simp [isB] at h
  subst h
  rfl
theorem tpost_isB {K : PySem.W.Frag} {B H : Hp} {d : PyData} {Q : Bool → Hp → Prop} {v : V} (r : R K B v d) (e : Ex B H) (h : TPost K E B H (isB d) Q) : ∃ b, v = .bl b ∧ Q b H := by
  cases q : isB d with
  | stuck =>
    rw [q] at h
    exact h.elim
  | exc x => cases d <;> simp [isB] at q
  | ok b =>
    rw [q] at h
    exact ⟨b, isB_ok q r, h B H (.refl e)⟩
theorem dt_cmp {op : CmpOp} {r : R2} {g : PyData → PyData → M Sl} (ho : OpR X (compareOp op) r) (hg : OpD X E r g) (ha : DE X E a fa) (hb : DE X E b fb) (hm : behindInMarks op b = false) : DT X E (.Compare a [op] [b] pos) (tOf (eOp g fa fb)) := by
  obtain ⟨ta, pa, ha⟩ := ha
  obtain ⟨tb, pb, hb⟩ := hb
  refine ⟨_, pt_cmpR ho pa pb hm, fun B0 H0 B H σ ρ Q re q => ?_⟩
  refine run_e (run_op hg ha hb) re ?_
  rcases q.bind with ⟨x, e1, q⟩ | ⟨x, e1, q⟩
  · exact .inl ⟨x, e1, fun v B1 H1 g1 r1 => tpost_isB r1 g1.s (q.grow g1)⟩
  · exact .inr ⟨x, e1, q⟩
theorem dt_val (ha : DE X E a fa) (he : ∀ whole, isTrue a X.env whole = (do let v ← whole; standAt a.pos; holding [v] (truthy v)) := by intro _; rfl) : DT X E a (tOf fa) := by
  obtain ⟨ta, pa, ha⟩ := ha
  refine ⟨_, pt_val pa he, fun B0 H0 B H σ ρ Q re q => ?_⟩
  refine run_e ha re ?_
  rcases q.bind with ⟨x, e1, q⟩ | ⟨x, e1, q⟩
  · exact .inl ⟨x, e1, fun v B1 H1 g1 r1 => tpost_isB r1 g1.s (q.grow g1)⟩
  · exact .inr ⟨x, e1, q⟩
/-! ### tests put together -/
theorem run_t {f : Env → M Bool} {t : TT} (h : ∀ B0 H0 B H σ ρ Q, ER X.K B0 H0 B H σ ρ → TPost X.K E B H (f ρ) Q → t σ H Q)
    {B0 H0 B H : Hp} {σ : L2.St} {ρ : Env} {Q : Bool → Hp → Prop} (r : ER X.K B0 H0 B H σ ρ) (hf : (∃ b, f ρ = .ok b ∧ ∀ B' H', Gr B H B' H' → Q b H') ∨ ∃ x, f ρ = .exc x ∧ ∀ H', Ex H H' → E (.ref (He.ga X.K x)) none H') : t σ H Q := by
  rcases hf with ⟨b, e1, k⟩ | ⟨x, e1, k⟩
  · refine h B0 H0 B H σ ρ Q r ?_
    rw [e1]
    exact k
  · refine h B0 H0 B H σ ρ Q r ?_
    rw [e1]
    exact k
def tAndF (f g : Env → M Bool) : Env → M Bool := fun ρ => (f ρ).bind fun b => if b = true then g ρ else .ok false
def tOrF (f g : Env → M Bool) : Env → M Bool := fun ρ => (f ρ).bind fun b => if b = true then .ok true else g ρ
def tNotF (f : Env → M Bool) : Env → M Bool := fun ρ => (f ρ).bind fun b => .ok (!b)
section
variable {f g : Env → M Bool} {rest : List Expr}
theorem dt_not (h : DT X E a f) : DT X E (.UnaryOp .Not a pos) (tNotF f) := by
  obtain ⟨t, p, h⟩ := h
  refine ⟨_, pt_not p, fun B0 H0 B H σ ρ Q re q => ?_⟩
  refine run_t h re ?_
  rcases q.bind with ⟨x, e1, q⟩ | ⟨x, e1, q⟩
  · exact .inl ⟨x, e1, fun B1 H1 g1 => q B1 H1 g1⟩
  · exact .inr ⟨x, e1, q⟩
theorem dw_and1 (h : DT X E a f) : DW X E (.BoolOp .And [a] pos) f := let ⟨_, p, h⟩ := h; ⟨_, pw_and1 p, h⟩
theorem dw_or1 (h : DT X E a f) : DW X E (.BoolOp .Or [a] pos) f := let ⟨_, p, h⟩ := h; ⟨_, pw_or1 p, h⟩
theorem dw_and (h : DT X E a f) (k : DW X E (.BoolOp .And (b :: rest) pos) g) : DW X E (.BoolOp .And (a :: b :: rest) pos) (tAndF f g) := by
  obtain ⟨t, p, h⟩ := h
  obtain ⟨u, pu, k⟩ := k
  refine ⟨_, pw_and p pu, fun B0 H0 B H σ ρ Q re q => ?_⟩
  refine run_t h re ?_
  rcases q.bind with ⟨x, e1, q⟩ | ⟨x, e1, q⟩
  · refine .inl ⟨x, e1, fun B1 H1 g1 => ?_⟩
    cases x with
    | true => exact k B0 H0 B1 H1 σ ρ Q (re.grow g1) (TPost.grow g1 q)
    | false => exact q B1 H1 g1
  · exact .inr ⟨x, e1, q⟩
theorem dw_or (h : DT X E a f) (k : DW X E (.BoolOp .Or (b :: rest) pos) g) : DW X E (.BoolOp .Or (a :: b :: rest) pos) (tOrF f g) := by
  obtain ⟨t, p, h⟩ := h
  obtain ⟨u, pu, k⟩ := k
  refine ⟨_, pw_or p pu, fun B0 H0 B H σ ρ Q re q => ?_⟩
  refine run_t h re ?_
  rcases q.bind with ⟨x, e1, q⟩ | ⟨x, e1, q⟩
  · refine .inl ⟨x, e1, fun B1 H1 g1 => ?_⟩
    cases x with
    | true => exact q B1 H1 g1
    | false => exact k B0 H0 B1 H1 σ ρ Q (re.grow g1) (TPost.grow g1 q)
  · exact .inr ⟨x, e1, q⟩
theorem DW.dt (h : DW X E a f) : DT X E a f := let ⟨_, p, h⟩ := h; ⟨_, p.pt, h⟩
end
def eAndV (fa fb : Env → M Sl) : Env → M Sl := fun ρ => (tOf fa ρ).bind fun b => if b = true then fb ρ else .ok (.dat (.bool false))
def eOrV (fa fb : Env → M Sl) : Env → M Sl := fun ρ => (tOf fa ρ).bind fun b => if b = true then .ok (.dat (.bool true)) else fb ρ
def eNotV (fa : Env → M Sl) : Env → M Sl := fun ρ => (tOf fa ρ).bind fun b => .ok (.dat (.bool (!b)))
theorem epost_tOf {K : PySem.W.Frag} {B H : Hp} {r : M Sl} {g : Bool → M Sl} {Q : VK} (h : EPost K E B H ((r.bind fun x => isB x.d).bind g) Q) :
    (∃ sl, r = .ok sl ∧ ∀ v B' H', Gr B H B' H' → R K B' v sl.d → ∃ b, v = .bl b ∧ EPost K E B' H' (g b) Q) ∨ ∃ x, r = .exc x ∧ ∀ H', Ex H H' → E (.ref (He.ga K x)) none H' := by
  cases r with
  | stuck => exact h.elim
  | exc x => exact .inr ⟨x, rfl, h⟩
  | ok sl =>
    refine .inl ⟨sl, rfl, fun v B' H' g1 r1 => ?_⟩
    rw [bind_ok] at h
    cases q : isB sl.d with
    | stuck =>
      rw [q] at h
      exact h.elim
    | exc x =>
      exfalso
      cases z : sl.d <;> rw [z] at q <;> simp [isB] at q
    | ok b =>
      rw [q, bind_ok] at h
      exact ⟨b, isB_ok q r1, h.grow g1⟩
theorem de_not (ha : DE X E a fa) : DE X E (.UnaryOp .Not a pos) (eNotV fa) := by
  obtain ⟨ta, pa, ha⟩ := ha
  refine ⟨_, pe_not pa, fun B0 H0 B H σ ρ Q re q => ?_⟩
  refine run_e ha re ?_
  rcases epost_tOf q with ⟨x, e1, q⟩ | ⟨x, e1, q⟩
  · refine .inl ⟨x, e1, fun v B1 H1 g1 r1 => ?_⟩
    obtain ⟨b, rfl, q⟩ := q v B1 H1 g1 r1
    exact ⟨b, rfl, q.val g1.s (.bl _)⟩
  · exact .inr ⟨x, e1, q⟩
theorem de_one {op} (ha : DE X E a fa) : DE X E (.BoolOp op [a] pos) fa := let ⟨_, p, h⟩ := ha; ⟨_, pe_one p, h⟩
theorem de_and {rest : List Expr} (ha : DE X E a fa) (hb : DE X E (.BoolOp .And (b :: rest) pos) fb) : DE X E (.BoolOp .And (a :: b :: rest) pos) (eAndV fa fb) := by
  obtain ⟨ta, pa, ha⟩ := ha
  obtain ⟨tb, pb, hb⟩ := hb
  refine ⟨_, pe_and pa pb, fun B0 H0 B H σ ρ Q re q => ?_⟩
  refine run_e ha re ?_
  rcases epost_tOf q with ⟨x, e1, q⟩ | ⟨x, e1, q⟩
  · refine .inl ⟨x, e1, fun v B1 H1 g1 r1 => ?_⟩
    obtain ⟨b, rfl, q⟩ := q v B1 H1 g1 r1
    refine ⟨b, rfl, ?_⟩
    cases b with
    | true => exact hb B0 H0 B1 H1 σ ρ Q (re.grow g1) q
    | false => exact q.val g1.s (.bl _)
  · exact .inr ⟨x, e1, q⟩
def eIf (f : Env → M Bool) (fa fb : Env → M Sl) : Env → M Sl := fun ρ => (f ρ).bind fun b => if b = true then fa ρ else fb ρ
theorem de_if {f : Env → M Bool} (h : DT X E c f) (ha : DE X E a fa) (hb : DE X E b fb) : DE X E (.IfExp c a b pos) (eIf f fa fb) := by
  obtain ⟨t, p, h⟩ := h
  obtain ⟨ta, pa, ha⟩ := ha
  obtain ⟨tb, pb, hb⟩ := hb
  refine ⟨_, pe_ifExp p pa pb, fun B0 H0 B H σ ρ Q re q => ?_⟩
  refine run_t h re ?_
  rcases q.bind with ⟨x, e1, q⟩ | ⟨x, e1, q⟩
  · refine .inl ⟨x, e1, fun B1 H1 g1 => ?_⟩
    cases x with
    | true => exact ha B0 H0 B1 H1 σ ρ Q (re.grow g1) (EPost.grow g1 q)
    | false => exact hb B0 H0 B1 H1 σ ρ Q (re.grow g1) (EPost.grow g1 q)
  · exact .inr ⟨x, e1, q⟩
/-! ### arguments, displays -/
def aNil : Env → M (List PyData) := fun _ => .ok []
def aCons (f : Env → M Sl) (g : Env → M (List PyData)) : Env → M (List PyData) := fun ρ => (f ρ).bind fun x => (g ρ).bind fun ds => .ok (x.d :: ds)
theorem da_nil : DA X E [] aNil := ⟨_, pa_nil, fun B0 H0 B H σ ρ Q re q => q [] B H (.refl re.gr.s) .nil⟩
theorem da_cons {f : Env → M Sl} {g : Env → M (List PyData)} (h : DE X E e f) (k : DA X E es g) (hs : starEach (e :: es) X.env = (false, eval e X.env) :: starEach es X.env := by rfl) : DA X E (e :: es) (aCons f g) := by
  obtain ⟨t, p, h⟩ := h
  obtain ⟨u, pu, k⟩ := k
  refine ⟨_, pa_cons p pu hs, fun B0 H0 B H σ ρ Q re q => ?_⟩
  refine run_e h re ?_
  rcases q.bind with ⟨x, e1, q⟩ | ⟨x, e1, q⟩
  · refine .inl ⟨x, e1, fun v B1 H1 g1 r1 => ?_⟩
    refine k B0 H0 B1 H1 σ ρ _ (re.grow g1) ?_
    have q := APost.grow g1 q
    cases z : g ρ with
    | stuck =>
      rw [z] at q
      exact q.elim
    | exc x =>
      rw [z] at q
      exact q
    | ok ds =>
      rw [z] at q
      exact fun vs B2 H2 g2 r2 => q (v :: vs) B2 H2 g2 (.cons (r1.mono g2.b) r2)
  · exact .inr ⟨x, e1, q⟩
def big (n : Nat) : Bool := decide (n ≤ 16777216)
theorem big_ok {n : Nat} (h : big n = true) : n ≤ sizeLine := by
  have := of_decide_eq_true h
  rw [sizeLine_eq]
  exact this
def eTup (f : Env → M (List PyData)) : Env → M Sl := fun ρ => (f ρ).bind fun ds => if big ds.length = true then .ok (.dat (.tuple ds)) else .stuck
def eLst (f : Env → M (List PyData)) : Env → M Sl := fun ρ => (f ρ).bind fun ds => if big ds.length = true then .ok (.own (.list ds)) else .stuck
theorem run_a {f : Env → M (List PyData)} {t : TA} (h : ∀ B0 H0 B H σ ρ Q, ER X.K B0 H0 B H σ ρ → APost X.K E B H (f ρ) Q → t σ H Q)
    {B0 H0 B H : Hp} {σ : L2.St} {ρ : Env} {Q : List V → Hp → Prop} (r : ER X.K B0 H0 B H σ ρ) (hf : (∃ ds, f ρ = .ok ds ∧ ∀ vs B' H', Gr B H B' H' → RA X.K B' vs ds → Q vs H') ∨ ∃ x, f ρ = .exc x ∧ ∀ H', Ex H H' → E (.ref (He.ga X.K x)) none H') : t σ H Q := by
  rcases hf with ⟨b, e1, k⟩ | ⟨x, e1, k⟩
  · refine h B0 H0 B H σ ρ Q r ?_
    rw [e1]
    exact k
  · refine h B0 H0 B H σ ρ Q r ?_
    rw [e1]
    exact k
theorem de_tup {k : Nat} {f : Env → M (List PyData)} (h : DA X E es f) : DE X E (.Tuple es k pos) (eTup f) := by
  obtain ⟨t, p, h⟩ := h
  refine ⟨_, pe_tup p, fun B0 H0 B H σ ρ Q re q => ?_⟩
  refine run_a h re ?_
  rcases q.bind with ⟨ds, e1, q⟩ | ⟨x, e1, q⟩
  · refine .inl ⟨ds, e1, fun vs B1 H1 g1 r1 => ?_⟩
    have q := EPost.grow g1 q
    split at q
    · rename_i hb
      exact ⟨by rw [r1.length]; exact big_ok hb, fun p hp => q.new g1.s hp (.tup upd_same (r1.mono (.new (g1.s.back hp))))⟩
    · exact q.elim
  · exact .inr ⟨x, e1, q⟩
theorem de_lst {f : Env → M (List PyData)} (h : DA X E es f) : DE X E (.List es pos) (eLst f) := by
  obtain ⟨t, p, h⟩ := h
  refine ⟨_, pe_lst p, fun B0 H0 B H σ ρ Q re q => ?_⟩
  refine run_a h re ?_
  rcases q.bind with ⟨ds, e1, q⟩ | ⟨x, e1, q⟩
  · refine .inl ⟨ds, e1, fun vs B1 H1 g1 r1 => ?_⟩
    have q := EPost.grow g1 q
    split at q
    · rename_i hb
      exact ⟨by rw [r1.length]; exact big_ok hb, fun p hp => q.own g1.s hp (.lst r1)⟩
    · exact q.elim
  · exact .inr ⟨x, e1, q⟩
/-! ### calls -/
def eCall (g : List PyData → M Sl) (f : Env → M (List PyData)) : Env → M Sl := fun ρ => (f ρ).bind g
theorem run_call {r : List V → Hp → VK → Prop} {g : List PyData → M Sl} {f : Env → M (List PyData)} {t : TA} (hg : CallD X E r g)
    (h : ∀ B0 H0 B H σ ρ Q, ER X.K B0 H0 B H σ ρ → APost X.K E B H (f ρ) Q → t σ H Q) : ∀ B0 H0 B H σ ρ Q, ER X.K B0 H0 B H σ ρ → EPost X.K E B H (eCall g f ρ) Q → t σ H fun vs H1 => r vs H1 Q := by
  intro B0 H0 B H σ ρ Q re q
  refine run_a h re ?_
  rcases q.bind with ⟨ds, e1, q⟩ | ⟨x, e1, q⟩
  · exact .inl ⟨ds, e1, fun vs B1 H1 g1 r1 => hg vs ds B1 H1 Q g1.s r1 (q.grow g1)⟩
  · exact .inr ⟨x, e1, q⟩
theorem de_callB {x : Str} {p : Pos} {id : String} {r : List V → Hp → VK → Prop} {g : List PyData → M Sl} {f : Env → M (List PyData)} (hc : CallR X (.builtin id) r) (hg : CallD X E r g) (gl : Gl X x) (hm : X.mg x = none) (hv : bootBuiltins x = some (.builtin id)) (h : DA X E (e :: es) f)
    (hn : x ≠ "__name__" := by decide) (hdb : (x == ("__debug__" : Str)) = false := by decide) (he : starEach (e :: es) X.env = (false, eval e X.env) :: starEach es X.env := by rfl) (hpl : (backTo pos (starEach es X.env)).any (·.1) = false := by rfl) :
    DE X E (.Call (.Name x p) (e :: es) [] pos) (eCall g f) := by
  obtain ⟨t, pt, h⟩ := h
  exact ⟨_, pe_callB hc gl hm hv pt hn hdb he hpl, run_call hg h⟩
theorem de_callTy {x : Str} {p : Pos} {T : String} {r : List V → Hp → VK → Prop} {g : List PyData → M Sl} {f : Env → M (List PyData)} (hc : CallR X (.type T) r) (hg : CallD X E r g) (gl : Gl X x) (hm : X.mg x = none) (hv : bootBuiltins x = some (.type T)) (h : DA X E (e :: es) f)
    (hn : x ≠ "__name__" := by decide) (hdb : (x == ("__debug__" : Str)) = false := by decide) (he : starEach (e :: es) X.env = (false, eval e X.env) :: starEach es X.env := by rfl) (hpl : (backTo pos (starEach es X.env)).any (·.1) = false := by rfl) :
    DE X E (.Call (.Name x p) (e :: es) [] pos) (eCall g f) := by
  obtain ⟨t, pt, h⟩ := h
  exact ⟨_, pe_callTy hc gl hm hv pt hn hdb he hpl, run_call hg h⟩
/-- a def's promise, by data -/
def spD (K : PySem.W.Frag) (n : Nat) (g : List PyData → M Sl) : Sp := fun vs H Q E => vs.length = n ∧ ∃ ds B, Ex B H ∧ RA K B vs ds ∧ EPost K E B H (g ds) Q
theorem aCons_len {f : Env → M Sl} {g : Env → M (List PyData)} {n : Nat} (h : ∀ ρ ds, g ρ = .ok ds → ds.length = n) : ∀ ρ ds, aCons f g ρ = .ok ds → ds.length = n + 1 := by
  intro ρ ds e
  unfold aCons at e
  cases q : f ρ with
  | stuck => rw [q] at e; cases e
  | exc x => rw [q] at e; cases e
  | ok a =>
    rw [q, bind_ok] at e
    cases q2 : g ρ with
    | stuck => rw [q2] at e; cases e
    | exc x => rw [q2] at e; cases e
    | ok l =>
      rw [q2, bind_ok] at e
      cases e
      rw [List.length_cons, h ρ l q2]
theorem aNil_len : ∀ ρ ds, aNil ρ = .ok ds → ds.length = 0 := by
  intro ρ ds e
  cases e
  rfl
end
end Dl
/-! The data layer: statements, loops, comprehensions, defs. -/
namespace Dl
open PySem PySem.Spec PyProof.Rows L2
/-- what a statement does -/
inductive O where
  | stuck
  | exc (x : Str)
  | nx (ρ : Env)
  | rt (sl : Sl)
  | bk (ρ : Env)
  | ct (ρ : Env)
def SPost (K : PySem.W.Frag) (E : XK) (B0 H0 B : Hp) (D : Ends) (o : O) : Prop := match o with
  | .stuck => False
  | .exc x => ∀ H', Ex H0 H' → E (.ref (He.ga K x)) none H'
  | .nx ρ => ∀ B' H' σ', Ex B B' → ER K B0 H0 B' H' σ' ρ → D.nx σ' H'
  | .bk ρ => ∀ B' H' σ', Ex B B' → ER K B0 H0 B' H' σ' ρ → D.bk σ' H'
  | .ct ρ => ∀ B' H' σ', Ex B B' → ER K B0 H0 B' H' σ' ρ → D.ct σ' H'
  | .rt sl => ∀ v B' H', Gr B0 H0 B' H' → Res K H0 B' H' v sl → D.rt v H'
def DS (X : Cx) (E : XK) (st : Stmt) (f : Env → O) : Prop := ∃ t, PS X st t ∧ ∀ B0 H0 B H σ ρ D, ER X.K B0 H0 B H σ ρ → SPost X.K E B0 H0 B D (f ρ) → t D σ H
def DSs (X : Cx) (E : XK) (sts : List Stmt) (f : Env → O) : Prop := ∃ t, PSs X sts t ∧ ∀ B0 H0 B H σ ρ D, ER X.K B0 H0 B H σ ρ → SPost X.K E B0 H0 B D (f ρ) → t D σ H
theorem SPost.grow {K : PySem.W.Frag} {E : XK} {B0 H0 B B' : Hp} {D : Ends} {o : O} (e : Ex B B') (h : SPost K E B0 H0 B D o) : SPost K E B0 H0 B' D o := by
  cases o with
  | stuck => exact h
  | exc x => exact h
  | nx ρ => exact fun B2 H2 σ2 e2 r => h B2 H2 σ2 (e.trans e2) r
  | bk ρ => exact fun B2 H2 σ2 e2 r => h B2 H2 σ2 (e.trans e2) r
  | ct ρ => exact fun B2 H2 σ2 e2 r => h B2 H2 σ2 (e.trans e2) r
  | rt sl => exact h
/-- of an expression, then of what one does with its value -/
def oOf {α : Type} (r : M α) (k : α → O) : O := match r with
  | .stuck => .stuck
  | .exc x => .exc x
  | .ok a => k a
@[simp] theorem oOf_ok {α : Type} (a : α) (k : α → O) : oOf (.ok a) k = k a := rfl
@[simp] theorem oOf_exc {α : Type} (x : Str) (k : α → O) : oOf (.exc x : M α) k = .exc x := rfl
@[simp] theorem oOf_stuck {α : Type} (k : α → O) : oOf (.stuck : M α) k = .stuck := rfl
section
variable {X : Cx} {E : XK} {a b c e : Expr} {es : List Expr} {fa fb : Env → M Sl} {pos : Pos} {st : Stmt} {rest : List Stmt} {f g : Env → O}
/-- an expression's end, where its value may be one's own -/
theorem epost_of {K : PySem.W.Frag} {B0 H0 B H : Hp} {D : Ends} {σ : L2.St} {ρ : Env} {r : M Sl} {k : Sl → O} {Q : VK} (re : ER K B0 H0 B H σ ρ) (h : SPost K E B0 H0 B D (oOf r k))
    (hk : ∀ sl, r = .ok sl → SPost K E B0 H0 B D (k sl) → ∀ v B' H', Gr B H B' H' → Res K H B' H' v sl → Q v H') : EPost K E B H r Q := by
  cases r with
  | stuck => exact h.elim
  | exc x => exact fun H' e => h H' (re.gr.h.trans e)
  | ok sl => exact hk sl rfl h
theorem tpost_of {K : PySem.W.Frag} {B0 H0 B H : Hp} {D : Ends} {σ : L2.St} {ρ : Env} {r : M Bool} {k : Bool → O} {Q : Bool → Hp → Prop} (re : ER K B0 H0 B H σ ρ) (h : SPost K E B0 H0 B D (oOf r k))
    (hk : ∀ sl, r = .ok sl → SPost K E B0 H0 B D (k sl) → ∀ B' H', Gr B H B' H' → Q sl H') : TPost K E B H r Q := by
  cases r with
  | stuck => exact h.elim
  | exc x => exact fun H' e => h H' (re.gr.h.trans e)
  | ok sl => exact hk sl rfl h
def oSet (i : Nat) (fa : Env → M Sl) : Env → O := fun ρ => oOf (fa ρ) fun sl => .nx (ρ.set i (some sl))
theorem ds_set {i : Nat} {x : Str} {pos' : Pos} (hN : X.N.Nodup) (hi : X.N[i]? = some x) (hx : Loc X.env.scope x) (h : DE X E e fa) (hs : swapsWith e (some (.Name x pos')) pos.line X.env = pure false := by rfl) (hf : X.fn x = true ∨ X.env.scope.names.lookup x = some .local := by first | exact .inl rfl | exact .inr rfl | assumption) :
    DS X E (.Assign [.Name x pos'] e pos) (oSet i fa) := by
  obtain ⟨t, p, h⟩ := h
  refine ⟨_, ps_set hN hi hx p hs hf, fun B0 H0 B H σ ρ D re q => ?_⟩
  exact h B0 H0 B H σ ρ _ re (epost_of re q fun sl _ q v B' H' g r => q B' H' _ g.b (re.put g r))
def oExp (fa : Env → M Sl) : Env → O := fun ρ => oOf (fa ρ) fun _ => .nx ρ
theorem ds_expr (h : DE X E e fa) (hs : swapsWith e none pos.line X.env = pure false := by rfl) : DS X E (.Expr e pos) (oExp fa) := by
  obtain ⟨t, p, h⟩ := h
  refine ⟨_, ps_expr p hs, fun B0 H0 B H σ ρ D re q => ?_⟩
  exact h B0 H0 B H σ ρ _ re (epost_of re q fun sl _ q v B' H' g r => q B' H' _ g.b (re.grow g))
def oRet (fa : Env → M Sl) : Env → O := fun ρ => oOf (fa ρ) .rt
theorem ds_ret (h : DE X E e fa) : DS X E (.Return (some e) pos) (oRet fa) := by
  obtain ⟨t, p, h⟩ := h
  refine ⟨_, ps_ret p, fun B0 H0 B H σ ρ D re q => ?_⟩
  exact h B0 H0 B H σ ρ _ re (epost_of re q fun sl _ q v B' H' g r => q v B' H' (re.gr.trans g) (r.later re.gr.h))
/-- return of a name that may be one's own -/
def oRetV (i : Nat) : Env → O := fun ρ => match ρ[i]? with
  | some (some sl) => .rt sl
  | _ => .stuck
theorem ds_retV (i : Nat) (h : PE X e (tVar i)) : DS X E (.Return (some e) pos) (oRetV i) := by
  refine ⟨_, ps_ret h, fun B0 H0 B H σ ρ D re q => ?_⟩
  unfold oRetV at q
  split at q
  · rename_i sl hd
    cases sl with
    | dat d =>
      obtain ⟨v, h1, h2⟩ := re.dat i d hd
      exact ⟨v, h1, q v B H re.gr h2⟩
    | own d =>
      obtain ⟨p, o, h1, h2, h3, h4, h5⟩ := re.own i d hd
      exact ⟨_, h1, q _ B H re.gr ⟨p, o, rfl, h2, h3, h4, h5⟩⟩
  · exact q.elim
def oRetN : Env → O := fun _ => .rt (.dat .none)
def oNx : Env → O := fun ρ => .nx ρ
def oBk : Env → O := fun ρ => .bk ρ
def oCt : Env → O := fun ρ => .ct ρ
theorem ds_continue : DS X E (.Continue pos) oCt := ⟨_, ps_continue, fun B0 H0 B H σ ρ D re q => q B H σ (.refl _) re⟩
def oSeq (f g : Env → O) : Env → O := fun ρ => match f ρ with
  | .nx ρ' => g ρ'
  | o => o
theorem dss_nil : DSs X E [] oNx := ⟨_, pss_nil, fun B0 H0 B H σ ρ D re q => q B H σ (.refl _) re⟩
theorem dss_one (h : DS X E st f) : DSs X E [st] f := let ⟨_, p, h⟩ := h; ⟨_, pss_one p, h⟩
theorem dss_cons (h : DS X E st f) (k : DSs X E rest g) : DSs X E (st :: rest) (oSeq f g) := by
  obtain ⟨t, p, h⟩ := h
  obtain ⟨u, pu, k⟩ := k
  refine ⟨_, pss_cons p pu, fun B0 H0 B H σ ρ D re q => ?_⟩
  refine h B0 H0 B H σ ρ _ re ?_
  unfold oSeq at q
  cases z : f ρ with
  | nx ρ' =>
    rw [z] at q
    exact fun B' H' σ' e r => k B0 H0 B' H' σ' ρ' D r (SPost.grow e q)
  | stuck => rw [z] at q; exact q
  | exc x => rw [z] at q; exact q
  | rt sl => rw [z] at q; exact q
  | bk ρ' => rw [z] at q; exact q
  | ct ρ' => rw [z] at q; exact q
/-- slots fixed ahead of a statement -/
def fixs (ρ : Env) : List Nat → Env
  | [] => ρ
  | i :: l => fixs (ρ.fix i) l
theorem ER.fixs {K : PySem.W.Frag} {B0 H0 H : Hp} {σ : L2.St} : ∀ (l : List Nat) {B : Hp} {ρ : Env}, ER K B0 H0 B H σ ρ → ∃ B2, (∀ a o, B2 a = some o → B a = some o ∨ Own o) ∧ Ex B B2 ∧ ER K B0 H0 B2 H σ (fixs ρ l)
  | [], B, ρ, r => ⟨B, fun a o h => .inl h, .refl _, r⟩
  | i :: l, B, ρ, r => by
    obtain ⟨B1, n1, e1, r1⟩ := r.fix (i := i)
    obtain ⟨B2, n2, e2, r2⟩ := ER.fixs l r1
    exact ⟨B2, fun a o h => (n2 a o h).elim (n1 a o) .inr, e1.trans e2, r2⟩
def oFix (l : List Nat) (f : Env → O) : Env → O := fun ρ => f (fixs ρ l)
theorem ds_fix (l : List Nat) (h : DS X E st f) : DS X E st (oFix l f) := by
  obtain ⟨t, p, h⟩ := h
  refine ⟨t, p, fun B0 H0 B H σ ρ D re q => ?_⟩
  obtain ⟨B2, _, e, r⟩ := re.fixs l
  exact h B0 H0 B2 H σ _ D r (SPost.grow e q)
def oIf (t : Env → M Bool) (f g : Env → O) : Env → O := fun ρ => oOf (t ρ) fun b => if b = true then f ρ else g ρ
theorem ds_if {c : Expr} {x y : List Stmt} {t : Env → M Bool} (h : DT X E c t) (hf : DSs X E x f) (hg : DSs X E y g) : DS X E (.If c x y pos) (oIf t f g) := by
  obtain ⟨u, p, h⟩ := h
  obtain ⟨tf, pf, hf⟩ := hf
  obtain ⟨tg, pg, hg⟩ := hg
  refine ⟨_, ps_if p pf pg, fun B0 H0 B H σ ρ D re q => ?_⟩
  refine h B0 H0 B H σ ρ _ re (tpost_of re q fun b _ q B' H' g1 => ?_)
  cases b with
  | true => exact hf B0 H0 B' H' σ ρ D (re.grow g1) (SPost.grow g1.b q)
  | false => exact hg B0 H0 B' H' σ ρ D (re.grow g1) (SPost.grow g1.b q)
/-! ### targets -/
/-- only the slots sl differ -/
def OnlyAt (sl : List Nat) (σ σ' : L2.St) : Prop := ∀ vs : List Nat, (∀ i ∈ sl, i ∈ vs) → wipe σ' vs = wipe σ vs
theorem OnlyAt.refl {sl : List Nat} {σ : L2.St} : OnlyAt sl σ σ := fun _ _ => rfl
theorem OnlyAt.trans {sl sl' : List Nat} {σ σ' σ2 : L2.St} (a : OnlyAt sl σ σ') (b : OnlyAt sl' σ' σ2) : OnlyAt (sl ++ sl') σ σ2 := fun vs h =>
  (b vs fun i hi => h i (List.mem_append_right _ hi)).trans (a vs fun i hi => h i (List.mem_append_left _ hi))
theorem wipe_none {σ : L2.St} : ∀ {vs : List Nat} {i : Nat}, i ∈ vs → (wipe σ vs)[i]? = some none ∨ (wipe σ vs).length ≤ i
  | v :: vs, i, h => by
    unfold wipe
    by_cases z : v = i
    · subst z
      by_cases l : v < (wipe σ vs).length
      · exact .inl (List.getElem?_set_self l)
      · exact .inr (by rw [List.length_set]; omega)
    · rcases List.mem_cons.mp h with e | h
      · exact absurd e.symm z
      · rw [List.getElem?_set_ne z, List.length_set]
        exact wipe_none h
theorem wipe_not {σ : L2.St} : ∀ {vs : List Nat} {i : Nat}, i ∉ vs → (wipe σ vs)[i]? = σ[i]?
  | [], _, _ => rfl
  | v :: vs, i, h => by
    unfold wipe
    rw [List.getElem?_set_ne (fun (e : v = i) => h (by rw [e]; exact List.mem_cons_self)), wipe_not fun q => h (List.mem_cons_of_mem _ q)]
theorem OnlyAt.set {i : Nat} {σ : L2.St} {x : Option V} : OnlyAt [i] σ (σ.set i x) := fun vs h => by
  have hi := h i List.mem_cons_self
  refine List.ext_getElem? fun j => ?_
  by_cases hj : j ∈ vs
  · rcases wipe_none (σ := σ) hj with e | e
    · rcases wipe_none (σ := σ.set i x) hj with e2 | e2
      · rw [e, e2]
      · rw [wipe_length, List.length_set] at e2
        rw [List.getElem?_eq_none (by rw [wipe_length, List.length_set]; exact e2), List.getElem?_eq_none (by rw [wipe_length]; exact e2)]
    · rw [wipe_length] at e
      rw [List.getElem?_eq_none (by rw [wipe_length, List.length_set]; exact e), List.getElem?_eq_none (by rw [wipe_length]; exact e)]
  · rw [wipe_not hj, wipe_not hj, List.getElem?_set_ne (fun (e : i = j) => hj (by rw [← e]; exact hi))]
def DG (X : Cx) (tg : Expr) (sl : List Nat) (bd : PyData → Env → M Env) : Prop := ∃ t, PG X tg t ∧ ∀ B0 H0 B H σ ρ v d ρ' (Q : L2.St → Hp → Prop), ER X.K B0 H0 B H σ ρ → R X.K B v d → bd d ρ = .ok ρ' → (∀ σ', ER X.K B0 H0 B H σ' ρ' → OnlyAt sl σ σ' → Q σ' H) → t v σ H Q
def DGs (X : Cx) (tgs : List Expr) (sl : List Nat) (bd : List PyData → Env → M Env) : Prop := ∃ t, PGs X tgs t ∧ ∀ B0 H0 B H σ ρ vs ds ρ' (Q : L2.St → Hp → Prop), ER X.K B0 H0 B H σ ρ → RA X.K B vs ds → bd ds ρ = .ok ρ' → (∀ σ', ER X.K B0 H0 B H σ' ρ' → OnlyAt sl σ σ' → Q σ' H) → t vs σ H Q
def bN (i : Nat) : PyData → Env → M Env := fun d ρ => .ok (ρ.set i (some (.dat d)))
theorem dg_name {i : Nat} {x : Str} (hN : X.N.Nodup) (hi : X.N[i]? = some x) (hx : Loc X.env.scope x) (hf : X.fn x = true ∨ X.env.scope.names.lookup x = some .local := by first | exact .inl rfl | exact .inr rfl | assumption) : DG X (.Name x pos) [i] (bN i) := by
  refine ⟨_, pg_name hN hi hx hf, fun B0 H0 B H σ ρ v d ρ' Q re r e k => ?_⟩
  cases e
  exact k _ (re.put (.refl re.gr.s) (sl := .dat d) r) .set
def bNil : List PyData → Env → M Env := fun ds ρ => match ds with
  | [] => .ok ρ
  | _ => .stuck
def bCons (t : PyData → Env → M Env) (u : List PyData → Env → M Env) : List PyData → Env → M Env := fun ds ρ => match ds with
  | d :: ds => (t d ρ).bind (u ds)
  | [] => .stuck
theorem dgs_nil : DGs X [] [] bNil := by
  refine ⟨_, pgs_nil, fun B0 H0 B H σ ρ vs ds ρ' Q re r e k => ?_⟩
  cases r with
  | nil =>
    cases e
    exact ⟨rfl, k σ re .refl⟩
  | cons _ _ => cases e
theorem dgs_cons {tg : Expr} {tgs : List Expr} {t : PyData → Env → M Env} {u : List PyData → Env → M Env} {l1 l2 : List Nat} (h : DG X tg l1 t) (k : DGs X tgs l2 u) (hs : (assignEach (tg :: tgs) X.env).map (·.2) = assign tg X.env :: (assignEach tgs X.env).map (·.2) := by rfl) : DGs X (tg :: tgs) (l1 ++ l2) (bCons t u) := by
  obtain ⟨tt, p, h⟩ := h
  obtain ⟨tu, pu, k⟩ := k
  refine ⟨_, pgs_cons p pu hs, fun B0 H0 B H σ ρ vs ds ρ' Q re r e q => ?_⟩
  cases r with
  | nil => cases e
  | cons r1 r2 =>
    rename_i v vs d ds
    unfold bCons at e
    simp only at e
    cases z : t d ρ with
    | stuck => rw [z] at e; cases e
    | exc x => rw [z] at e; cases e
    | ok ρ1 =>
      rw [z, bind_ok] at e
      exact ⟨v, vs, rfl, h B0 H0 B H σ ρ v d ρ1 _ re r1 z fun σ1 re1 o1 => k B0 H0 B H σ1 ρ1 vs ds ρ' Q re1 r2 e fun σ2 re2 o2 => q σ2 re2 (o1.trans o2)⟩
def bTup (n : Nat) (u : List PyData → Env → M Env) : PyData → Env → M Env := fun d ρ => match d with
  | .tuple ds => if ds.length = n then u ds ρ else .stuck
  | _ => .stuck
theorem dg_tup {tgs : List Expr} {k n : Nat} {sl : List Nat} {u : List PyData → Env → M Env} (hc : X.calm = true) (h : DGs X tgs sl u) (hn : (assignEach tgs X.env).length = n := by rfl) (hst : (assignEach tgs X.env).findIdx? (·.1) = none := by rfl) : DG X (.Tuple tgs k pos) sl (bTup n u) := by
  obtain ⟨t, p, h⟩ := h
  refine ⟨_, pg_tup hc p hn hst, fun B0 H0 B H σ ρ v d ρ' Q re r e q => ?_⟩
  unfold bTup at e
  split at e
  · rename_i ds
    split at e
    · rename_i hl
      cases r with
      | tup hs ra => exact ⟨_, _, rfl, ex_u re.gr.s hs, by rw [ra.length]; exact hl, h B0 H0 B H σ ρ _ ds ρ' Q re ra e q⟩
    · cases e
  · cases e
/-- a, b = e -/
def oAsg (fa : Env → M Sl) (bd : PyData → Env → M Env) : Env → O := fun ρ => oOf (fa ρ) fun sl => oOf (bd sl.d ρ) .nx
theorem ds_asg {tg : Expr} {sl : List Nat} {bd : PyData → Env → M Env} (h : DE X E e fa) (hg : DG X tg sl bd) (hs : swapsWithSole [tg] e pos.line X.env = pure false := by rfl) (hw : swappedStores [tg] e X.env = pure none := by rfl)
    (h1 : (assignEach [tg] X.env).map (·.2) = [assign tg X.env] := by rfl) (hb : ∀ d ρ x, bd d ρ ≠ .exc x) : DS X E (.Assign [tg] e pos) (oAsg fa bd) := by
  obtain ⟨t, p, h⟩ := h
  obtain ⟨g, pg, hg⟩ := hg
  refine ⟨_, ps_asg p pg hs hw h1, fun B0 H0 B H σ ρ D re q => ?_⟩
  refine h B0 H0 B H σ ρ _ re (epost_of re q fun sl _ q v B' H' g1 r => ?_)
  obtain ⟨B2, g2, r2⟩ := r.fix g1
  cases z : bd sl.d ρ with
  | stuck => rw [z] at q; exact q.elim
  | exc x => exact (hb _ _ _ z).elim
  | ok ρ1 =>
    rw [z] at q
    exact hg B0 H0 B2 H' σ ρ v sl.d ρ1 _ (re.grow g2) r2 z fun σ1 re1 _ => q B2 H' σ1 g2.b re1
theorem bN_ne {i : Nat} : ∀ d ρ x, bN i d ρ ≠ .exc x := fun _ _ _ h => by cases h
theorem bNil_ne : ∀ d ρ x, bNil d ρ ≠ .exc x := fun d _ _ h => by cases d <;> cases h
theorem bCons_ne {t : PyData → Env → M Env} {u : List PyData → Env → M Env} (ht : ∀ d ρ x, t d ρ ≠ .exc x) (hu : ∀ d ρ x, u d ρ ≠ .exc x) : ∀ d ρ x, bCons t u d ρ ≠ .exc x := fun ds ρ x h => by
  cases ds with
  | nil => cases h
  | cons d ds =>
    unfold bCons at h
    simp only at h
    cases z : t d ρ with
    | stuck => rw [z] at h; cases h
    | exc y => exact ht _ _ _ z
    | ok ρ1 =>
      rw [z, bind_ok] at h
      exact hu _ _ _ h
theorem bTup_ne {n : Nat} {u : List PyData → Env → M Env} (hu : ∀ d ρ x, u d ρ ≠ .exc x) : ∀ d ρ x, bTup n u d ρ ≠ .exc x := fun d ρ x h => by
  unfold bTup at h
  split at h
  · split at h
    · exact hu _ _ _ h
    · cases h
  · cases h
/-! ### what is walked -/
/-- n items, each at its turn the data ds[i] -/
def Wlk (K : PySem.W.Frag) (B : Hp) (J : It) (ds : List PyData) : Prop := ∃ G Y, Walk J ds.length G Y ∧ (∀ B1 H1, Ex B B1 → Ex B1 H1 → G H1) ∧
  ∀ (i : Nat) B1 H1 v H2, i < ds.length → Ex B B1 → Ex B1 H1 → Y i H1 v H2 → ∃ B2 d, ds[i]? = some d ∧ Gr B1 H1 B2 H2 ∧ R K B2 v d
def IPost (K : PySem.W.Frag) (E : XK) (B H : Hp) (r : M (List PyData)) (Q : It → Hp → Prop) : Prop := match r with
  | .stuck => False
  | .exc x => ∀ H', Ex H H' → E (.ref (He.ga K x)) none H'
  | .ok ds => ∀ J B' H', Gr B H B' H' → Wlk K B' J ds → Q J H'
def DI (X : Cx) (E : XK) (tg iter : Expr) (f : Env → M (List PyData)) : Prop := ∃ wi, PI X tg iter wi ∧ ∀ B0 H0 B H σ ρ Q, ER X.K B0 H0 B H σ ρ → IPost X.K E B H (f ρ) Q → wi σ H Q
theorem IPost.grow {K : PySem.W.Frag} {B H B' H' : Hp} {r : M (List PyData)} {Q : It → Hp → Prop} (g : Gr B H B' H') (h : IPost K E B H r Q) : IPost K E B' H' r Q := by
  cases r with
  | stuck => exact h
  | exc x => exact fun H2 e => h H2 (g.h.trans e)
  | ok sl => exact fun v B2 H2 g2 q => h v B2 H2 (g.trans g2) q
theorem IPost.bind {K : PySem.W.Frag} {B H : Hp} {α : Type} {r : M α} {g : α → M (List PyData)} {Q : It → Hp → Prop} (h : IPost K E B H (r.bind g) Q) : (∃ a, r = .ok a ∧ IPost K E B H (g a) Q) ∨ ∃ x, r = .exc x ∧ ∀ H', Ex H H' → E (.ref (He.ga K x)) none H' := by
  cases r with
  | stuck => exact h.elim
  | exc x => exact .inr ⟨x, rfl, h⟩
  | ok a => exact .inl ⟨a, rfl, h⟩
/-- for -/
def oFor (bd : PyData → Env → M Env) (body : Env → O) : List PyData → Env → O
  | [], ρ => .nx ρ
  | d :: ds, ρ => oOf (bd d ρ) fun ρ1 => match body ρ1 with
    | .nx ρ2 => oFor bd body ds ρ2
    | .ct ρ2 => oFor bd body ds ρ2
    | .bk ρ2 => .nx ρ2
    | .rt sl => .rt sl
    | .exc x => .exc x
    | .stuck => .stuck
def oForE (fi : Env → M (List PyData)) (bd : PyData → Env → M Env) (body : Env → O) : Env → O := fun ρ => oOf (fi ρ) fun ds => oFor bd body ds ρ
theorem ipost_of {K : PySem.W.Frag} {B0 H0 B H : Hp} {D : Ends} {σ : L2.St} {ρ : Env} {r : M (List PyData)} {k : List PyData → O} {Q : It → Hp → Prop} (re : ER K B0 H0 B H σ ρ) (h : SPost K E B0 H0 B D (oOf r k))
    (hk : ∀ sl, r = .ok sl → SPost K E B0 H0 B D (k sl) → ∀ J B' H', Gr B H B' H' → Wlk K B' J sl → Q J H') : IPost K E B H r Q := by
  cases r with
  | stuck => exact h.elim
  | exc x => exact fun H' e => h H' (re.gr.h.trans e)
  | ok sl => exact hk sl rfl h
theorem ds_for {tg iter : Expr} {sl : List Nat} {body : List Stmt} {fi : Env → M (List PyData)} {bd : PyData → Env → M Env} (hp : PassesOwn (model X.prog X.w) X.A X.env X.xe) (hc : X.calm = true) (hi : DI X E tg iter fi) (hg : DG X tg sl bd) (hb : DSs X E body f) (hne : ∀ d ρ x, bd d ρ ≠ .exc x)
    (hs : ∀ x, foldedSetIterable iter X.env x = pure x := by intro _; rfl) : DS X E (.For tg iter body [] pos) (oForE fi bd f) := by
  obtain ⟨wi, pi, hi⟩ := hi
  obtain ⟨g, pg, hg⟩ := hg
  obtain ⟨tb, pb, hb⟩ := hb
  refine ⟨_, ps_for hp hc pi pg pb hs, fun B0 H0 B H σ ρ D re q => ?_⟩
  refine hi B0 H0 B H σ ρ _ re (ipost_of re q fun ds _ q J B1 H1 g1 w => ?_)
  obtain ⟨G, Y, w, hG, hY⟩ := w
  refine for_it w (fun i σ' H' => ∃ B' ρ', ER X.K B0 H0 B' H' σ' ρ' ∧ Ex B1 B' ∧ SPost X.K E B0 H0 B' D (oFor bd f (ds.drop i) ρ')) ⟨B1, ρ, re.grow g1, .refl _, SPost.grow g1.b q⟩ (fun i σ' H' _ ⟨B', ρ', r, e, _⟩ => hG B' H' e r.gr.s) ?_ ?_
  · rintro i v σ' H2 H3 hlt ⟨B', ρ', r, e, s⟩ y
    obtain ⟨B2, d, hd, g2, rv⟩ := hY i B' H2 v H3 hlt e r.gr.s y
    have r2 := r.grow g2
    have hdr : ds.drop i = d :: ds.drop (i + 1) := by
      have hh : i < ds.length := hlt
      rw [List.getElem?_eq_getElem hh] at hd
      cases hd
      exact List.drop_eq_getElem_cons hh
    rw [hdr] at s
    unfold oFor at s
    cases z : bd d ρ' with
    | stuck => rw [z] at s; exact s.elim
    | exc x => exact (hne _ _ _ z).elim
    | ok ρ1 =>
      rw [z, oOf_ok] at s
      refine hg B0 H0 B2 H3 σ' ρ' v d ρ1 _ r2 rv z fun σ1 re1 _ => ?_
      refine hb B0 H0 B2 H3 σ1 ρ1 _ re1 ?_
      have s := SPost.grow g2.b s
      cases zb : f ρ1 with
      | nx ρ2 =>
        rw [zb] at s
        exact fun B4 H4 σ4 e4 r4 => ⟨B4, ρ2, r4, e.trans (g2.b.trans e4), SPost.grow e4 s⟩
      | ct ρ2 =>
        rw [zb] at s
        exact fun B4 H4 σ4 e4 r4 => ⟨B4, ρ2, r4, e.trans (g2.b.trans e4), SPost.grow e4 s⟩
      | bk ρ2 =>
        rw [zb] at s
        exact s
      | rt sl =>
        rw [zb] at s
        exact s
      | exc x =>
        rw [zb] at s
        exact s
      | stuck =>
        rw [zb] at s
        exact s
  · rintro σ' H2 ⟨B', ρ', r, e, s⟩
    rw [List.drop_length] at s
    exact s B' H2 σ' (.refl _) r
/-! ### while, with a number of turns that is enough -/
end
end Dl
/-! The data layer: while, comprehensions, one's own lists read and changed, defs. -/
namespace Dl
open PySem PySem.Spec PyProof.Rows L2
section
variable {X : Cx} {E : XK} {a b c e : Expr} {es : List Expr} {fa fb : Env → M Sl} {pos : Pos} {st : Stmt} {rest : List Stmt} {f g : Env → O}
/-! ### while -/
/-! ### data that no store changes -/
mutual
def imm : PyData → Bool
  | .none => true
  | .bool _ => true
  | .int _ => true
  | .str _ => true
  | .tuple xs => immA xs
  | .list _ => false
  | .dict _ => false
def immA : List PyData → Bool
  | [] => true
  | x :: xs => imm x && immA xs
end
section
variable {K : PySem.W.Frag} {B B' : Hp}
mutual
theorem R.immR (h : ∀ a o, B a = some o → B' a = some o ∨ Own o) : ∀ {v : V} {d : PyData}, R K B v d → imm d = true → R K B' v d
  | _, _, .non, _ => .non
  | _, _, .bl b, _ => .bl b
  | _, _, .int i, _ => .int i
  | _, _, .str x, _ => .str x
  | _, _, .lst _ _, i => by simp [imm] at i
  | _, _, .tup hs r, i => by
    refine .tup ?_ (RA.immR h r (by simpa [imm] using i))
    exact (h _ _ hs).elim id False.elim
  | _, _, .tupF _ _, i => by simp [imm] at i
  | _, _, .dK _ _, i => by simp [imm] at i
  | _, _, .dT _ _, i => by simp [imm] at i
  | _, _, .ins _ _, i => by simp [imm] at i
  | _, _, .scr _, i => by simp [imm] at i
  | _, _, .lk _ _, i => by simp [imm] at i
  | _, _, .lkK _ _, i => by simp [imm] at i
theorem RA.immR (h : ∀ a o, B a = some o → B' a = some o ∨ Own o) : ∀ {vs : List V} {ds : List PyData}, RA K B vs ds → immA ds = true → RA K B' vs ds
  | _, _, .nil, _ => .nil
  | _, _, .cons r q, i => by
    rw [immA, Bool.and_eq_true] at i
    exact .cons (R.immR h r i.1) (RA.immR h q i.2)
end
end
def immSl : Sl → Bool
  | .dat d => imm d
  | .own (.list ds) => immA ds
  | .own _ => false
/-! ### an expression that reads one's own objects -/
def pubM (r : M Sl) : M Sl := match r with
  | .ok sl => if immSl sl = true then .ok sl else .stuck
  | r => r
def fixAll (ρ : Env) : Env := fixs ρ (List.range ρ.length)
def ePub (f : Env → M Sl) : Env → M Sl := fun ρ => pubM (f (fixAll ρ))
def tPub (f : Env → M Bool) : Env → M Bool := fun ρ => f (fixAll ρ)
open Classical in
/-- back from the heap where all is fixed -/
theorem back_of2 {Z : HO → Prop} {B B2 H B3 H3 : Hp} (e : Ex B B2) (s2 : Ex B2 H) (n : ∀ a o, B2 a = some o → B a = some o ∨ Z o) (g : Gr B2 H B3 H3) : ∃ B', Gr B H B' H3 ∧ (∀ a o, B3 a = some o → B' a = some o ∨ Z o) ∧ ∀ a, H a = none → B' a = B3 a := by
  have some_ne : ∀ a o, H a = some o → (∀ xs, o ≠ .tup xs) → ¬ (H a = none ∨ ∃ xs, H a = some (.tup xs)) := fun a o h t z => by
    rcases z with z | ⟨xs, z⟩
    · rw [z] at h; cases h
    · rw [z] at h; cases h; exact t _ rfl
  have isT : ∀ o : HO, (∃ xs, o = .tup xs) ∨ ∀ xs, o ≠ .tup xs := fun o => by
    cases o <;> first | exact .inl ⟨_, rfl⟩ | exact .inr fun _ h => nomatch h
  refine ⟨fun a => if H a = none ∨ ∃ xs, H a = some (.tup xs) then B3 a else B a, ⟨fun a o h => ?_, g.h, fun a o h => ?_, fun a o h z => ?_⟩, fun a o h => ?_, fun a h => ?_⟩
  · show (if _ then B3 a else B a) = some o
    split
    · exact g.b a o (e a o h)
    · exact h
  · have h : (if H a = none ∨ ∃ xs, H a = some (.tup xs) then B3 a else B a) = some o := h
    split at h
    · exact g.s a o h
    · exact g.s a o (g.b a o (e a o h))
  · rcases isT o with t | t
    · exact .inr t
    · refine .inl ?_
      show (if _ then B3 a else B a) = none
      rw [if_neg (some_ne a o h t)]
      exact z
  · show (if _ then B3 a else B a) = some o ∨ _
    split
    · exact .inl h
    · rename_i hn
      cases q : B2 a with
      | none =>
        cases z : H a with
        | none => exact absurd (.inl z) hn
        | some u =>
          rw [g.lm z q fun xs e => hn (.inr ⟨xs, by rw [z, e]⟩)] at h
          cases h
      | some u =>
        have k := g.b a u q
        rw [h] at k
        cases k
        exact n a o q
  · show (if _ then B3 a else B a) = B3 a
    rw [if_pos (.inl h)]
theorem back_of {B B2 H B3 H3 : Hp} (e : Ex B B2) (s2 : Ex B2 H) (n : ∀ a o, B2 a = some o → B a = some o ∨ Own o) (g : Gr B2 H B3 H3) : ∃ B', Gr B H B' H3 ∧ (∀ a o, B3 a = some o → B' a = some o ∨ Own o) ∧ ∀ a, H a = none → B' a = B3 a := back_of2 e s2 n g
theorem de_pub (h : DE X E e fa) : DE X E e (ePub fa) := by
  obtain ⟨t, p, h⟩ := h
  refine ⟨t, p, fun B0 H0 B H σ ρ Q re q => ?_⟩
  obtain ⟨B2, n, ex, r2⟩ := re.fixs (List.range ρ.length)
  refine h B0 H0 B2 H σ _ Q r2 ?_
  unfold ePub at q
  have q : EPost X.K E B H (pubM (fa (fixs ρ (List.range ρ.length)))) Q := q
  cases z : fa (fixs ρ (List.range ρ.length)) with
  | stuck => rw [z] at q; exact q.elim
  | exc x => rw [z] at q; exact q
  | ok sl =>
    rw [z] at q
    unfold pubM at q
    simp only at q
    split at q
    · rename_i hi
      intro v B3 H3 g r
      obtain ⟨B', g', n', e'⟩ := back_of ex r2.gr.s n g
      refine q v B' H3 g' ?_
      cases sl with
      | dat d => exact r.immR n' hi
      | own d =>
        obtain ⟨p, o, h1, h2, h3, h4, h5⟩ := r
        refine ⟨p, o, h1, h2, by rw [e' p h2]; exact h3, h4, ?_⟩
        cases h5 with
        | lst ra => exact .lst (ra.immR n' hi)
        | dK ra => cases hi
        | dT ra => cases hi
    · exact q.elim
theorem dt_pub {c : Expr} {t : Env → M Bool} (h : DT X E c t) : DT X E c (tPub t) := by
  obtain ⟨u, p, h⟩ := h
  refine ⟨u, p, fun B0 H0 B H σ ρ Q re q => ?_⟩
  obtain ⟨B2, n, ex, r2⟩ := re.fixs (List.range ρ.length)
  refine h B0 H0 B2 H σ _ Q r2 ?_
  unfold tPub at q
  have q : TPost X.K E B H (t (fixs ρ (List.range ρ.length))) Q := q
  cases z : t (fixs ρ (List.range ρ.length)) with
  | stuck => rw [z] at q; exact q.elim
  | exc x => rw [z] at q; exact q
  | ok b =>
    rw [z] at q
    intro B3 H3 g
    obtain ⟨B', g', _, _⟩ := back_of ex r2.gr.s n g
    exact q B' H3 g'
theorem ER.own_put {K : PySem.W.Frag} {B0 H0 B H : Hp} {σ : L2.St} {ρ : Env} {i : Nat} {d d' : PyData} {p : Addr} {o o' : HO} (r : ER K B0 H0 B H σ ρ) (hi : ρ[i]? = some (some (.own d))) (hs : σ[i]? = some (some (.ref p))) (ho : H p = some o) (hb : B p = none) (h0 : H0 p = none) (t : Top K B o' d') :
    ER K B0 H0 B (upd H p o') σ (ρ.set i (some (.own d'))) := by
  have hl : i < ρ.length := (List.getElem?_eq_some_iff.mp hi).1
  have ne : ∀ a u, H0 a = some u → a ≠ p := fun a u h z => by rw [z, h0] at h; cases h
  have nb : ∀ a u, B a = some u → a ≠ p := fun a u h z => by rw [z, hb] at h; cases h
  refine ⟨⟨r.gr.b, fun a u h => by rw [upd_ne (ne a u h)]; exact r.gr.h a u h, fun a u h => by rw [upd_ne (nb a u h)]; exact r.gr.s a u h, r.gr.l⟩, by rw [List.length_set]; exact r.len, fun j c e => ?_, fun j c e => ?_, fun j k c c' q e1 e2 e3 e4 => ?_⟩
  · by_cases z : i = j
    · subst z
      rw [List.getElem?_set_self hl] at e
      cases e
    · rw [List.getElem?_set_ne z] at e
      exact r.dat j c e
  · by_cases z : i = j
    · subst z
      rw [List.getElem?_set_self hl] at e
      cases e
      exact ⟨p, o', hs, h0, hb, upd_same, t⟩
    · rw [List.getElem?_set_ne z] at e
      obtain ⟨p2, o2, k1, k2, k3, k4, k5⟩ := r.own j c e
      have hp : p2 ≠ p := fun zz => z (r.sep i j d c p hi e hs (by rw [← zz]; exact k1))
      exact ⟨p2, o2, k1, k2, k3, by rw [upd_ne hp]; exact k4, k5⟩
  · have own_at : ∀ (j : Nat) c, (ρ.set i (some (.own d')))[j]? = some (some (.own c)) → ∃ c2, ρ[j]? = some (some (.own c2)) := by
      intro j c e
      by_cases z : i = j
      · subst z
        exact ⟨d, hi⟩
      · rw [List.getElem?_set_ne z] at e
        exact ⟨c, e⟩
    obtain ⟨c1, f1⟩ := own_at j c e1
    obtain ⟨c2, f2⟩ := own_at k c' e2
    exact r.sep j k c1 c2 q f1 f2 e3 e4
/-! ### one's own list changed by a method -/
/-- by data: a method that changes its list -/
def MutU (X : Cx) (r : V → List V → Hp → VK → Prop) (g : List PyData → List PyData → Option (List PyData × PyData)) : Prop :=
  ∀ p vs l xs ds l' d B H (Q : VK), H p = some (.lst vs) → Ex B H → RA X.K B vs l → RA X.K B xs ds → g l ds = some (l', d) → (∀ vs' y, RA X.K B vs' l' → R X.K B y d → Q y (upd H p (.lst vs'))) → r (.ref p) xs H Q
def gAppend (l ds : List PyData) : Option (List PyData × PyData) := match ds with
  | [d] => if big (l.length + 1) = true then some (l ++ [d], .none) else none
  | _ => none
theorem mut_append : MutU X rAppend gAppend := by
  intro p vs l xs ds l' d B H Q ho exb rl ra e k
  unfold gAppend at e
  split at e
  · split at e
    · rename_i hb
      cases e
      cases ra with
      | cons r1 r2 =>
        cases r2
        exact ⟨p, vs, _, rfl, rfl, ho, by rw [rl.length]; exact big_ok hb, k _ _ (rl.snoc r1) .non⟩
    · cases e
  · cases e
def gPop (l ds : List PyData) : Option (List PyData × PyData) := match ds with
  | [] => (match l[l.length - 1]? with
    | some d => some (l.dropLast, d)
    | none => none)
  | _ => none
theorem mut_pop : MutU X rPop gPop := by
  intro p vs l xs ds l' d B H Q ho exb rl ra e k
  unfold gPop at e
  split at e
  · split at e
    · rename_i y hy
      cases e
      cases ra
      obtain ⟨v, h1, h2⟩ := rl.get hy
      exact ⟨p, vs, v, rfl, rfl, ho, by rw [rl.length]; exact h1, k _ _ rl.dropLast h2⟩
    · cases e
  · cases e
def gPopAt (l ds : List PyData) : Option (List PyData × PyData) := match ds with
  | [.int i] => if 0 ≤ i ∧ i < (l.length : Int) ∧ big l.length = true then (match l[i.toNat]? with
    | some d => some (l.eraseIdx i.toNat, d)
    | none => none) else none
  | _ => none
theorem mut_popAt : MutU X rPopAt gPopAt := by
  intro p vs l xs ds l' d B H Q ho exb rl ra e k
  unfold gPopAt at e
  split at e
  · rename_i i
    split at e
    · rename_i hb
      obtain ⟨h0, h1, h2⟩ := hb
      split at e
      · rename_i y hy
        cases e
        cases ra with
        | cons r1 r2 =>
          cases r2
          cases r1
          obtain ⟨v, k1, k2⟩ := rl.get hy
          have h3 := of_decide_eq_true h2
          refine ⟨p, vs, i, i.toNat, v, rfl, rfl, ho, by omega, by omega, ?_, k1, k _ _ (rl.eraseIdx _) k2⟩
          have := (ixN_seq (n := vs.length) (i := i) (j := i.toNat) (by
            unfold ixN
            rw [if_pos h0, if_pos (by rw [rl.length]; omega)])).1
          exact this
      · cases e
    · cases e
  · cases e
/-! ### an expression that changes a slot's own list -/
def MPost (K : PySem.W.Frag) (E : XK) (B0 H0 B : Hp) (σ : L2.St) (r : M (PyData × Env)) (Q : VK) : Prop := match r with
  | .stuck => False
  | .exc x => ∀ H', Ex H0 H' → E (.ref (He.ga K x)) none H'
  | .ok (d, ρ) => ∀ v B' H', Ex B B' → ER K B0 H0 B' H' σ ρ → R K B' v d → Q v H'
def DM (X : Cx) (E : XK) (e : Expr) (f : Env → M (PyData × Env)) : Prop := ∃ t, PE X e t ∧ ∀ B0 H0 B H σ ρ Q, ER X.K B0 H0 B H σ ρ → MPost X.K E B0 H0 B σ (f ρ) Q → t σ H Q
def mLift (f : Env → M Sl) : Env → M (PyData × Env) := fun ρ => (f ρ).bind fun x => .ok (x.d, ρ)
def mMut (i : Nat) (g : List PyData → List PyData → Option (List PyData × PyData)) (f : Env → M (List PyData)) : Env → M (PyData × Env) := fun ρ => match ρ[i]? with
  | some (some (.own (.list l))) => (f ρ).bind fun ds => (match g l ds with
    | some (l', d) => .ok (d, ρ.set i (some (.own (.list l'))))
    | none => .stuck)
  | _ => .stuck
theorem run_mut {i : Nat} {r : V → List V → Hp → VK → Prop} {g : List PyData → List PyData → Option (List PyData × PyData)} {fs : Env → M (List PyData)} {t : TA} (hg : MutU X r g)
    (h : ∀ B0 H0 B H σ ρ Q, ER X.K B0 H0 B H σ ρ → APost X.K E B H (fs ρ) Q → t σ H Q) : ∀ B0 H0 B H σ ρ Q, ER X.K B0 H0 B H σ ρ → MPost X.K E B0 H0 B σ (mMut i g fs ρ) Q → tBM X.K "list" r (tVar i) t σ H Q := by
  intro B0 H0 B H σ ρ Q re q
  unfold mMut at q
  split at q
  · rename_i l hi
    obtain ⟨p, o, h1, h2, h3, h4, h5⟩ := re.own i _ hi
    cases h5 with
    | lst rl =>
      rename_i vs
      refine ⟨_, h1, .inl ⟨rfl, vs, SqL.of h4⟩, h B0 H0 B H σ ρ _ re ?_⟩
      cases z : fs ρ with
      | stuck => rw [z] at q; exact q.elim
      | exc x =>
        rw [z] at q
        exact fun H' e => q H' (re.gr.h.trans e)
      | ok ds =>
        rw [z, bind_ok] at q
        intro xs B1 H1 g1 ra
        split at q
        · rename_i l' d hgd
          refine hg p vs l xs ds l' d B1 H1 Q (g1.h p _ h4) g1.s (rl.mono g1.b) ra hgd fun vs' y rv ry => ?_
          have nb : B1 p = none := g1.lm h4 h3 (fun _ h => nomatch h)
          exact q y B1 _ g1.b ((re.grow g1).own_put hi h1 (g1.h p _ h4) nb h2 (.lst rv)) ry
        · exact q.elim
  · exact q.elim
theorem dm_mut {i : Nat} {id : String} {name : Str} {r : V → List V → Hp → VK → Prop} {g : List PyData → List PyData → Option (List PyData × PyData)} {o : Expr} {fs : Env → M (List PyData)} {apos cpos : Pos} (sl : Slot "list" name id) (hty : typeOf (.builtin id) = pure (.type "method_descriptor")) (hm : MtR X id r) (hg : MutU X r g)
    (ho : PE X o (tVar i)) (ha : DA X E (e :: es) fs)
    (hpe : ∀ t, PA X (e :: es) t → PE X (.Call (.Attribute o name apos) (e :: es) [] cpos) (tBM X.K "list" r (tVar i) t)) : DM X E (.Call (.Attribute o name apos) (e :: es) [] cpos) (mMut i g fs) := by
  obtain ⟨t, p, h⟩ := ha
  exact ⟨_, hpe t p, run_mut hg h⟩
theorem dm_mut0 {i : Nat} {r : V → List V → Hp → VK → Prop} {g : List PyData → List PyData → Option (List PyData × PyData)} {c : Expr} (hg : MutU X r g) (hpe : PE X c (tBM0 X.K "list" r (tVar i))) : DM X E c (mMut i g aNil) := by
  refine ⟨_, hpe, fun B0 H0 B H σ ρ Q re q => ?_⟩
  have := run_mut (i := i) (E := E) (t := tNil) hg (fs := aNil) (fun B0 H0 B H σ ρ Q re q => q [] B H (.refl re.gr.s) .nil) B0 H0 B H σ ρ Q re q
  exact this
/-- a statement that only does this -/
def oMutS (f : Env → M (PyData × Env)) : Env → O := fun ρ => oOf (f ρ) fun x => .nx x.2
theorem mpost_of {K : PySem.W.Frag} {B0 H0 B H : Hp} {D : Ends} {σ : L2.St} {r : M (PyData × Env)} {k : PyData × Env → O} {Q : VK} (h : SPost K E B0 H0 B D (oOf r k))
    (hk : ∀ d ρ, r = .ok (d, ρ) → SPost K E B0 H0 B D (k (d, ρ)) → ∀ v B' H', Ex B B' → ER K B0 H0 B' H' σ ρ → R K B' v d → Q v H') : MPost K E B0 H0 B σ r Q := by
  cases r with
  | stuck => exact h.elim
  | exc x => exact h
  | ok sl => exact hk sl.1 sl.2 rfl h
theorem ds_mut {m : Env → M (PyData × Env)} (h : DM X E e m) (hs : swapsWith e none pos.line X.env = pure false := by rfl) : DS X E (.Expr e pos) (oMutS m) := by
  obtain ⟨t, p, h⟩ := h
  refine ⟨_, ps_expr p hs, fun B0 H0 B H σ ρ D re q => ?_⟩
  exact h B0 H0 B H σ ρ _ re (mpost_of (H := H) q fun d ρ' _ q v B' H' eb r _ => q B' H' σ eb r)
def oMutA (i : Nat) (f : Env → M (PyData × Env)) : Env → O := fun ρ => oOf (f ρ) fun x => .nx (x.2.set i (some (.dat x.1)))
theorem ds_mutA {m : Env → M (PyData × Env)} {i : Nat} {x : Str} {pos' : Pos} (hN : X.N.Nodup) (hi : X.N[i]? = some x) (hx : Loc X.env.scope x) (h : DM X E e m) (hs : swapsWith e (some (.Name x pos')) pos.line X.env = pure false := by rfl) (hf : X.fn x = true ∨ X.env.scope.names.lookup x = some .local := by first | exact .inl rfl | exact .inr rfl | assumption) :
    DS X E (.Assign [.Name x pos'] e pos) (oMutA i m) := by
  obtain ⟨t, p, h⟩ := h
  refine ⟨_, ps_set hN hi hx p hs hf, fun B0 H0 B H σ ρ D re q => ?_⟩
  exact h B0 H0 B H σ ρ _ re (mpost_of (H := H) q fun d ρ' _ q v B' H' eb r rv => q B' H' _ eb (r.put (.refl r.gr.s) (sl := .dat d) rv))
/-- arguments whose first one changes a slot -/
def DAM (X : Cx) (E : XK) (es : List Expr) (f : Env → M (List PyData × Env)) : Prop := ∃ t, PA X es t ∧ ∀ B0 H0 B H σ ρ (Q : List V → Hp → Prop), ER X.K B0 H0 B H σ ρ →
  (match f ρ with
    | .stuck => False
    | .exc x => ∀ H', Ex H0 H' → E (.ref (He.ga X.K x)) none H'
    | .ok (ds, ρ') => ∀ vs B' H', Ex B B' → ER X.K B0 H0 B' H' σ ρ' → RA X.K B' vs ds → Q vs H') → t σ H Q
def amCons (f : Env → M (PyData × Env)) (g : Env → M (List PyData)) : Env → M (List PyData × Env) := fun ρ => (f ρ).bind fun x => (g x.2).bind fun ds => .ok (x.1 :: ds, x.2)
theorem dam_cons {m : Env → M (PyData × Env)} {gs : Env → M (List PyData)} (h : DM X E e m) (k : DA X E es gs) (hs : starEach (e :: es) X.env = (false, eval e X.env) :: starEach es X.env := by rfl) : DAM X E (e :: es) (amCons m gs) := by
  obtain ⟨t, p, h⟩ := h
  obtain ⟨u, pu, k⟩ := k
  refine ⟨_, pa_cons p pu hs, fun B0 H0 B H σ ρ Q re q => ?_⟩
  refine h B0 H0 B H σ ρ _ re ?_
  unfold amCons at q
  cases z : m ρ with
  | stuck => rw [z] at q; exact q.elim
  | exc x => rw [z] at q; exact q
  | ok y =>
    obtain ⟨d, ρ1⟩ := y
    rw [z] at q
    intro v B1 H1 e1 r1 rv
    refine k B0 H0 B1 H1 σ ρ1 _ r1 ?_
    simp only [bind_ok] at q
    cases z2 : gs ρ1 with
    | stuck => rw [z2] at q; exact q.elim
    | exc x =>
      rw [z2] at q
      exact fun H' e => q H' (r1.gr.h.trans e)
    | ok ds =>
      rw [z2] at q
      exact fun vs B2 H2 g2 ra => q (v :: vs) B2 H2 (e1.trans g2.b) (r1.grow g2) (.cons (rv.mono g2.b) ra)
end
/-! ### defs -/
def fnO (n m : Nat) (o : Env → O) : List PyData → M Sl := fun ds => if ds.length = n then (match o (ds.map (fun d => some (Sl.dat d)) ++ List.replicate (m - n) none) with
  | .rt sl => .ok sl
  | .nx _ => .ok (.dat .none)
  | .exc x => .exc x
  | _ => .stuck) else .stuck
theorem er_start {K : PySem.W.Frag} {N : List Str} {vs : List V} {ds : List PyData} {B H : Hp} (e : Ex B H) (r : RA K B vs ds) : ER K B H B H (L2.start N vs) (ds.map (fun d => some (Sl.dat d)) ++ List.replicate (N.length - ds.length) none) := by
  have hl := r.length
  refine ⟨.refl e, ?_, fun i d q => ?_, fun i d q => ?_, fun i j d e p q => ?_⟩
  · unfold L2.start
    simp [hl]
  · by_cases z : i < ds.length
    · rw [List.getElem?_append_left (by simpa using z), List.getElem?_map] at q
      cases z2 : ds[i]? with
      | none => rw [z2] at q; cases q
      | some d2 =>
        rw [z2] at q
        cases q
        obtain ⟨v, k1, k2⟩ := r.get z2
        refine ⟨v, ?_, k2⟩
        unfold L2.start
        rw [List.getElem?_append_left (by simpa [hl] using z), List.getElem?_map, k1]
        rfl
    · rw [List.getElem?_append_right (by simpa using z)] at q
      simp only [List.getElem?_replicate] at q
      split at q <;> cases q
  all_goals
    by_cases z : i < ds.length
    · rw [List.getElem?_append_left (by simpa using z), List.getElem?_map] at q
      cases z2 : ds[i]? with
      | none => rw [z2] at q; cases q
      | some d2 => rw [z2] at q; cases q
    · rw [List.getElem?_append_right (by simpa using z)] at q
      simp only [List.getElem?_replicate] at q
      split at q <;> cases q
/-- what a body does is what the def promises -/
theorem body_ok {X : Cx} {E : XK} {body : List Stmt} {o : Env → O} {N : List Str} {n : Nat} (h : DSs X E body o) {vs : List V} {H : Hp} {Q : VK} (hs : spD X.K n (fnO n N.length o) vs H Q E) :
    ∃ t, PSs X body t ∧ t { nx := fun _ H' => Q .non H', rt := Q } (L2.start N vs) H := by
  obtain ⟨t, p, h⟩ := h
  obtain ⟨hn, ds, B, e, r, q⟩ := hs
  refine ⟨t, p, h B H B H _ _ _ (er_start e r) ?_⟩
  have hl : ds.length = n := by rw [← r.length]; exact hn
  unfold fnO at q
  rw [if_pos hl, ← hl] at q
  cases z : o (ds.map (fun d => some (Sl.dat d)) ++ List.replicate (N.length - ds.length) none) with
  | stuck => rw [z] at q; exact q.elim
  | exc x => rw [z] at q; exact q
  | bk ρ => rw [z] at q; exact q.elim
  | ct ρ => rw [z] at q; exact q.elim
  | nx ρ =>
    rw [z] at q
    exact fun B' H' σ' _ r' => q .non B' H' r'.gr .non
  | rt sl =>
    rw [z] at q
    exact q
/-- what is known of a def of the text -/
def Knows (P : Program) (w : World) (K : PySem.W.Frag) (mg : Str → Option Value) (base : Heap) (x : Str) (k : Nat) (ps : List Str) (g : List PyData → M Sl) : Prop :=
  mg x = some (.ref (He.ga K x)) ∧ PySem.W.keepIn K (.ref (He.ga K x)) = true ∧ ∃ fd, FnOk P w K mg base (L2N.CX P w) k (He.ga K x) fd ps (spD K ps.length g) ∧ Binds K fd ps []
section
variable {P : Program} {w : World} {K : PySem.W.Frag} {mg : Str → Option Value} {base : Heap}
theorem kn_mk {x qual : Str} {st : Stmt} {N ps : List Str} {k : Nat} {o : Env → O} (hF : ∃ fd, FunD K x qual (defArgs st) (defBody st) (defScope st) [] [] (He.ga K x) fd) (S : FnScope N ps (defScope st)) (hm : mg x = some (.ref (He.ga K x)))
    (hb : ∀ (kV doc pm : Value) (an : Option Addr) (cdv ct : Value) (us : List Value), us.length = ps.length → bindArgs (PySem.W.fnOf x qual (defArgs st) (defBody st) (defScope st) .none kV doc pm an cdv ct) ⟨us, []⟩ = pure (ps.zip us))
    (h : ∀ (cdv : Value) (A : Around) (outer : List PySem.Env) (s : Shared) (H : Hp) (E : XK), Room k (A.deeper (envOfC qual (defScope st) s.heap.objs.size (He.ga K x) cdv)) →
      Passes (L2N.CX P w) (cxOf (L2N.CX P w) P w K mg base N qual (defScope st) (He.ga K x) cdv A outer s H E) E →
      DSs (cxOf (L2N.CX P w) P w K mg base N qual (defScope st) (He.ga K x) cdv A outer s H E) E (defBody st) o) : Knows P w K mg base x (k + 1) ps (fnO ps.length N.length o) := by
  obtain ⟨fd, F⟩ := hF
  refine ⟨hm, F.kp, fd, ?_, F.bindsN hb⟩
  refine F.ok S (fun vs H Q E h => h.1) fun cdv A outer s H vs Q E hr hs => ?_
  exact body_ok (h cdv A outer s H E hr (L2N.passes_call (L2N.takes_of rfl rfl rfl rfl) fun _ _ _ _ z => z)) hs
theorem takes_cx {N : List Str} {qual : Str} {scope : Scope} {f : Addr} {cdv : Value} {A : Around} {outer : List PySem.Env} {s : Shared} {H : Hp} {E : XK} : L2N.Takes (cxOf (L2N.CX P w) P w K mg base N qual scope f cdv A outer s H E) (fun cls d _ H => E cls d H) := L2N.takes_of rfl rfl rfl rfl
theorem owns_cx {N : List Str} {qual : Str} {scope : Scope} {f : Addr} {cdv : Value} {A : Around} {outer : List PySem.Env} {s : Shared} {H : Hp} {E : XK} :
    PassesOwn (model P w) (cxOf (L2N.CX P w) P w K mg base N qual scope f cdv A outer s H E).A (cxOf (L2N.CX P w) P w K mg base N qual scope f cdv A outer s H E).env (cxOf (L2N.CX P w) P w K mg base N qual scope f cdv A outer s H E).xe := passes_of (X := cxOf (L2N.CX P w) P w K mg base N qual scope f cdv A outer s H E) rfl
/-- a def of the text, called -/
theorem de_kn {X : Cx} {E : XK} {e : Expr} {es : List Expr} {pos p : Pos} {x : Str} {k : Nat} {ps : List Str} {g : List PyData → M Sl} {f : Env → M (List PyData)} (kn : Knows X.prog X.w X.K X.mg X.base x k ps g) (hr : Room k X.A) (hg : Gl X x) (hx : Passes (L2N.CX X.prog X.w) X E)
    (h : DA X E (e :: es) f) (hl : ∀ ρ ds, f ρ = .ok ds → ds.length = ps.length) (hdb : (x == ("__debug__" : Str)) = false := by decide) (he : starEach (e :: es) X.env = (false, eval e X.env) :: starEach es X.env := by rfl) (hpl : (backTo pos (starEach es X.env)).any (·.1) = false := by rfl) :
    DE X E (.Call (.Name x p) (e :: es) [] pos) (eCall g f) := by
  obtain ⟨hm, kp, fd, F, b⟩ := kn
  obtain ⟨t, pt, h⟩ := h
  refine ⟨_, pe_call F hr hg hm kp b .nil hx pt hdb he hpl, fun B0 H0 B H σ ρ Q re q => ?_⟩
  refine run_a h re ?_
  rcases q.bind with ⟨ds, e1, q⟩ | ⟨x, e1, q⟩
  · refine .inl ⟨ds, e1, fun vs B1 H1 g1 r1 => ?_⟩
    rw [List.append_nil]
    exact ⟨by rw [r1.length]; exact hl ρ ds e1, ds, B1, g1.s, r1, q.grow g1⟩
  · exact .inr ⟨x, e1, q⟩
def mCall (g : List PyData → M Sl) (f : Env → M (List PyData × Env)) : Env → M (PyData × Env) := fun ρ => (f ρ).bind fun x => (g x.1).bind fun y => .ok (y.d, x.2)
theorem dm_kn {X : Cx} {E : XK} {e : Expr} {es : List Expr} {pos p : Pos} {x : Str} {k : Nat} {ps : List Str} {g : List PyData → M Sl} {f : Env → M (List PyData × Env)} (kn : Knows X.prog X.w X.K X.mg X.base x k ps g) (hr : Room k X.A) (hg : Gl X x) (hx : Passes (L2N.CX X.prog X.w) X E)
    (h : DAM X E (e :: es) f) (hl : ∀ ρ ds ρ', f ρ = .ok (ds, ρ') → ds.length = ps.length) (hdb : (x == ("__debug__" : Str)) = false := by decide) (he : starEach (e :: es) X.env = (false, eval e X.env) :: starEach es X.env := by rfl) (hpl : (backTo pos (starEach es X.env)).any (·.1) = false := by rfl) :
    DM X E (.Call (.Name x p) (e :: es) [] pos) (mCall g f) := by
  obtain ⟨hm, kp, fd, F, b⟩ := kn
  obtain ⟨t, pt, h⟩ := h
  refine ⟨_, pe_call F hr hg hm kp b .nil hx pt hdb he hpl, fun B0 H0 B H σ ρ Q re q => ?_⟩
  refine h B0 H0 B H σ ρ _ re ?_
  unfold mCall at q
  cases z : f ρ with
  | stuck => rw [z] at q; exact q.elim
  | exc x => rw [z] at q; exact q
  | ok y =>
    obtain ⟨ds, ρ1⟩ := y
    rw [z] at q
    intro vs B1 H1 e1 r1 ra
    rw [List.append_nil]
    refine ⟨by rw [ra.length]; exact hl ρ ds ρ1 z, ds, B1, r1.gr.s, ra, ?_⟩
    simp only [bind_ok] at q
    cases z2 : g ds with
    | stuck => rw [z2] at q; exact q.elim
    | exc x =>
      rw [z2] at q
      exact fun H' e => q H' (r1.gr.h.trans e)
    | ok sl =>
      rw [z2] at q
      intro v B2 H2 g2 r
      obtain ⟨B3, g3, r3⟩ := r.fix g2
      exact q v B3 H2 (e1.trans g3.b) (r1.grow g3) r3
end
end Dl
/-! The data layer: what is walked; comprehensions. -/
namespace Dl
open PySem PySem.Spec PyProof.Rows L2
/-! ### enumerate(tuple) -/
section
open Sem (wp)
open AutoSeq1 (wpAny_loadPart')
theorem meets_enumerate_newT {v : Value} {o : Obj} {H : Heap → Prop} (B : Begins v o H) :
    Meets (Builtin.«enumerate.__new__» ⟨[.type "enumerate", v], []⟩) (fun _ R s => H s.heap ∧
      R (.ok (.ret (.ref (s.heap.push o).objs.size))) { s with heap := (s.heap.push o).push { cls := .type "enumerate", data := .fields #[.none, .bool false, .ref s.heap.objs.size, rawInt 0, .none, .none] } }) :=
  .of_wp fun prog w A R s h => by
    obtain ⟨hp, g, d, tk, os⟩ := s; obtain ⟨h1, h⟩ := h
    have hsub := sub_enumerate
    have q1 : ∀ {A' : Around} {E : Value → Shared → Prop} {Q : Value → Shared → Prop}, Q (.ref hp.objs.size) ⟨hp.push o, g, d, tk, os⟩ → wpAny (model prog w) A' (pyIter v) Q E ⟨hp, g, d, tk, os⟩ :=
      fun q => B.iter prog w _ _ ⟨hp, g, d, tk, os⟩ _ h1 q
    wp_walk using q1
    refine wpAny_stack_any fun st => wpAny_pure ?_
    split
    · rename_i c _ _ _ _ _
      cases (c == Value.type "enumerate")
      · wp_walk using q1
        exact ⟨_, rfl, h⟩
      · wp_walk using q1
        exact ⟨_, rfl, h⟩
    · wp_walk using q1
      exact ⟨_, rfl, h⟩
variable {prog : Program} {w : World} {A : Around} {E : Value → Shared → Prop} {s : Shared}
theorem call_enumerate_tup {v : Value} {o : Obj} {H : Heap → Prop} {Q : Value → Shared → Prop} (B : Begins v o H) (h1 : H s.heap)
    (h : ∀ h', IsEnum h' (s.heap.objs.size + 1) s.heap.objs.size 0 .none → h'.get? s.heap.objs.size = some o → h'.objs.size = s.heap.objs.size + 2 →
      (∀ b o, s.heap.get? b = some o → h'.get? b = some o) → Q (.ref (s.heap.objs.size + 1)) { s with heap := h' }) :
    wpAny (model prog w) A (call (.type "enumerate") [v]) Q E s := by
  refine callType_new F.called_enumerate (by decide) (F.typeCall_enumerate_1 _) (F.newCall_enumerate_1 _) (fun obj => F.args_object_init_2 obj _) F.entry_enumerate_new
    (meets_enumerate_newT B) ⟨h1, ?_⟩
  have hz : (s.heap.push o).objs.size = s.heap.objs.size + 1 := Heap.size_push ..
  show _ ∧ _
  rw [hz]
  have he : IsEnum ((s.heap.push o).push { cls := .type "enumerate", data := .fields #[.none, .bool false, .ref s.heap.objs.size, rawInt 0, .none, .none] }) (s.heap.objs.size + 1) s.heap.objs.size 0 .none := by
    have := Heap.get?_push_size (s.heap.push o) (o := { cls := .type "enumerate", data := .fields #[.none, .bool false, .ref s.heap.objs.size, rawInt 0, .none, .none] }) rfl
    rw [hz] at this; exact this
  refine ⟨⟨_, he, rfl⟩, h _ he (Heap.get?_push_of_some _ (Heap.get?_push_size _ B.free)) (by rw [Heap.size_push, hz]) fun b o x => Heap.get?_push_of_some _ (Heap.get?_push_of_some _ x)⟩
end
/-- the tuple at a, each item in a new pair -/
def IteT (K : PySem.W.Frag) (a : Addr) : It :=
  ⟨fun i H => ∃ (xs : List V) (x : V), SqT K H a xs ∧ xs[i]? = some x, fun i H v H' => ∃ T x, v = .ref T ∧ H T = none ∧ H' = upd H T (.tup [.int (i : Nat), x]) ∧ ∀ xs, SqT K H a xs → xs[i]? = some x, fun i H => ∃ xs : List V, SqT K H a xs ∧ xs.length ≤ i⟩
theorem turn_enumT {P : Program} {w : World} {K : PySem.W.Frag} {elts : List Expr} {kk : Nat} {tpos : Pos} (a e it : Addr) :
    Turn P w K (.Tuple elts kk tpos) (IteT K a) [e, it] e (fun i h => (∃ old, IsEnum h e it ((i : Nat) : Int) old) ∧ h.IsTupleIter it a i ∧ e ≠ it ∧ a ≠ it ∧ a ≠ e) where
  mem := by simp
  obj := fun i h st b hb => by
    obtain ⟨⟨old, he⟩, ⟨o, ho, hc, hd⟩, _⟩ := st
    have e' : b = e ∨ b = it := by simpa using hb
    rcases e' with z | z
    · rw [z]; exact ⟨_, he, fun v q => nomatch q⟩
    · rw [z]; exact ⟨o, ho, fun v q => by rw [hd] at q; cases q⟩
  keep := fun i h h' st k => let ⟨⟨old, he⟩, hi, hne⟩ := st; ⟨⟨old, k e (by simp) _ he⟩, hi.at fun o q => k it (by simp) o q, hne⟩
  item := by
    intro X hP hw hK hc i pins s σ H E I hf st hg
    subst hP hw hK
    obtain ⟨⟨old, he⟩, hit, hne, hai, hae⟩ := st
    obtain ⟨xs, x, hq, hx⟩ := hg
    obtain ⟨its, rv, p, hz⟩ := I.tuple hq
    obtain ⟨u, hu, ru⟩ := rv.get hx
    have hel : e < s.heap.objs.size := Heap.lt_size he
    have hil : it < s.heap.objs.size := by obtain ⟨_, q, _⟩ := hit; exact Heap.lt_size q
    have hlt : i < its.toArray.size := by
      rw [List.size_toArray, ← rv.length]
      exact (List.getElem?_eq_some_iff.mp hx).1
    have hh : X.A.in1.handled = none := I.ok.hd hc
    refine wpAny_pyNext_enum_itemD (Draws.tuple hh it a hai its.toArray) he ⟨hit, p⟩ hlt hne (by simp [hne, hae.symm]) fun y h' tk hy ho hit' hT hsz hk => ?_
    have ey : y = u := by
      have hu' : its.toArray[i]? = some u := by simpa using hu
      rw [hu'] at hy
      exact (Option.some.inj hy).symm
    subst ey
    refine ⟨_, rfl, wpAny_letOwnedTupleGo_enum (s := { s with heap := h', toks := tk + 1 }) ho fun h'' he' sb => ?_⟩
    have hT2 : h''.get? s.heap.objs.size = some { cls := .type "tuple", data := .seq #[.int i tk, y] } := (sb.2 _ (Nat.ne_of_gt hel)).trans hT
    have new : ObjOk X.prog X.w (upd H s.heap.objs.size (.tup [.int (i : Nat), x])) h'' s.heap.objs.size (.tup [.int (i : Nat), x]) :=
      ⟨by show 2 ≤ sizeLine; decide, [.int i tk, y], .cons ⟨_, rfl⟩ (.cons ru .nil), ⟨_, hT2, rfl, _, rfl⟩⟩
    have I1 : Inv X pins σ (upd H s.heap.objs.size (.tup [.int (i : Nat), x])) { s with heap := h'', toks := tk + 1 } :=
      I.turnedNew (ch := [e, it]) (fun b ob hb q => (sb.2 b (fun z => hb (by simp [z]))).trans (hk b ob (fun z => hb (by simp [z])) (fun z => hb (by simp [z])) q)) hf (Nat.le_refl _) new
    refine ⟨.ref s.heap.objs.size, _, I1, rfl, ⟨_, x, rfl, I.hok.fresh (Nat.le_refl _), rfl, fun ys hy => by rw [I.tuple_inj hy hq]; exact hx⟩, ⟨⟨y, ?_⟩, hit'.1.at fun o q => (sb.2 it (Ne.symm hne)).trans q, hne, hai, hae⟩, fun b hb => ?_⟩
    · have e1 : ((i + 1 : Nat) : Int) = (i : Int) + 1 := by omega
      rw [e1]; exact he'
    · have hb' : b < s.heap.objs.size := by
        have e' : b = e ∨ b = it := by simpa using hb
        rcases e' with z | z
        · rw [z]; exact hel
        · rw [z]; exact hil
      rw [upd_ne (Nat.ne_of_lt hb')]
      exact (hf b hb).1
  done := by
    intro X hP hw hK hc i pins s σ H E I hf st hg
    subst hP hw hK
    obtain ⟨⟨old, he⟩, hit, hne, hai, hae⟩ := st
    obtain ⟨xs, hq, hx⟩ := hg
    obtain ⟨its, rv, p, hz⟩ := I.tuple hq
    obtain ⟨f0, f1, f2, f3, f4, f5⟩ := hf it (by simp)
    have hl := rv.length
    have hh : X.A.in1.handled = none := I.ok.hd hc
    unfold pyNext
    have hT : s.TypeIs (.ref e) "enumerate" := ⟨_, he, rfl⟩
    refine wpAny_bind (wpAny_attempt (wpAny_callSpecial?_slot (name := Str.ofString "__next__") hT F.slot_enumerate_next
      (wpAny_call_entry F.slot_enumerate_next hT F.entry_enumerate_next ?_ (F.args_enumerate_next_1 _))))
    show wpAny _ _ (field (.ref e) 2 >>= _) _ _ _
    refine wpAny_bind (wpAny_field he rfl (x := .ref it) rfl ?_)
    refine wpAny_bind (wpAny_nextOf_tuple_end hh hit p (by simp; omega) fun h' x he' hx' => ?_)
    obtain ⟨o, ho, hcl⟩ := hx'
    refine wpAny_bind (wpAny_isInstance (T := "StopIteration") (b := true) ⟨o, ho, hcl⟩ isSubtype_stop ?_)
    exact wpAny_pure ⟨rfl, I.turned (t' := s.toks) (fun b o hb q => he' b o hb q) f0 f1 f3 f4 f5⟩
  self := fun A i s Q E st h => let ⟨⟨_, he⟩, _⟩ := st; wpAny_pyIter_enum he h
def iEnumT (K : PySem.W.Frag) (ta : TA) : TI := fun σ H R => ta σ H fun vs H1 => ∃ a, vs = [.ref a] ∧ ((∃ xs, SqL K H1 a xs ∧ R (Ite K a) H1) ∨ ∃ xs, SqT K H1 a xs ∧ R (IteT K a) H1)
theorem pi_enumT {X : Cx} {e : Expr} {ta : TA} {p pos tpos : Pos} {elts : List Expr} {kk : Nat} (hg : Gl X "enumerate") (hm : X.mg "enumerate" = none) (ha : PA X [e] ta) (hs : starEach [e] X.env = [(false, eval e X.env)] := by rfl) :
    PI X (.Tuple elts kk tpos) (.Call (.Name "enumerate" p) [e] [] pos) (iEnumT X.K ta) := by
  refine ⟨fun pins s σ H R I h => ?_⟩
  refine Call_ (ld_blt I hg hm boot_enumerate (PyProof.Rows.callWith_type1 (thn (ha.run pos pins s σ H _ I h) fun us s1 ⟨vs, H1, I1, r1, q1⟩ => ?_) hs rfl))
  obtain ⟨a, ex, hq⟩ := q1
  subst ex
  cases r1 with
  | cons r rr =>
    cases rr
    cases r
    have fp : ∀ b, b ∈ [s1.heap.objs.size + 1, s1.heap.objs.size] → FpOk X pins H1 b := fun b hb => by
      have e' : b = s1.heap.objs.size + 1 ∨ b = s1.heap.objs.size := by simpa using hb
      have hle : s1.heap.objs.size ≤ b := by
        rcases e' with z | z
        · rw [z]; exact Nat.le_add_right _ _
        · rw [z]; exact Nat.le_refl _
      exact I1.fpOk hle (I1.hok.fresh hle)
    rcases hq with ⟨xs, hq, q⟩ | ⟨xs, hq, q⟩
    · obtain ⟨its, rv, p', hz⟩ := I1.list hq
      refine call_enumerate_list p'.isList fun h' he hit hsz hk => wpAny_pyIter_enum he ?_
      have I2 : Inv X pins σ H1 { s1 with heap := h' } := I1.kept (t' := s1.toks) hk
      exact ⟨s1.heap.objs.size + 1, [s1.heap.objs.size + 1, s1.heap.objs.size], _, _, H1, rfl, I2, turn_enum a (s1.heap.objs.size + 1) s1.heap.objs.size, ⟨⟨.none, he⟩, hit, Nat.succ_ne_self _⟩, fp, q⟩
    · obtain ⟨its, rv, p', hz⟩ := I1.tuple hq
      have hlt : a < s1.heap.objs.size := p'.lt
      refine call_enumerate_tup (begins_tuple a its.toArray) p' fun h' he hit hsz hk => wpAny_pyIter_enum he ?_
      have I2 : Inv X pins σ H1 { s1 with heap := h' } := I1.kept (t' := s1.toks) hk
      exact ⟨s1.heap.objs.size + 1, [s1.heap.objs.size + 1, s1.heap.objs.size], _, _, H1, rfl, I2, turn_enumT a (s1.heap.objs.size + 1) s1.heap.objs.size, ⟨⟨.none, he⟩, ⟨_, hit, rfl, rfl⟩, Nat.succ_ne_self _, Nat.ne_of_lt hlt, Nat.ne_of_lt (Nat.lt_succ_of_lt hlt)⟩, fp, q⟩
end Dl
namespace Dl
open PySem PySem.Spec PyProof.Rows L2 RZ RT
section
variable {X : Cx} {E : XK} {tg e e2 : Expr} {fa fb : Env → M Sl} {pos : Pos}
/-! ### a sequence's or a text's walk -/
def iAny (K : PySem.W.Frag) (tl : TE) : TI := fun σ H R => tl σ H fun x H1 => (∃ a, x = .ref a ∧ ((∃ xs, SqL K H1 a xs ∧ R (Itl K a) H1) ∨ ∃ xs, SqT K H1 a xs ∧ R (Itt K a) H1)) ∨ ∃ z, x = .str z ∧ R (Its z) H1
theorem pi_any {l : Expr} {tl : TE} (hl : PE X l tl) : PI X tg l (iAny X.K tl) := by
  refine ⟨fun pins s σ H R I h => ?_⟩
  refine thn (hl.run pins s σ H _ I h) fun v s1 ⟨x, H1, I1, r1, q1⟩ => ?_
  rcases q1 with ⟨a, e, q1⟩ | ⟨z, e, q⟩
  · subst e
    cases r1
    have fp : ∀ b, b ∈ [s1.heap.objs.size] → FpOk X pins H1 b := fun b hb => by
      have e : b = s1.heap.objs.size := by simpa using hb
      subst e
      exact I1.fpOk (Nat.le_refl _) (I1.hok.fresh (Nat.le_refl _))
    rcases q1 with ⟨xs, hq, q⟩ | ⟨xs, hq, q⟩
    · obtain ⟨its, rv, p, hz⟩ := I1.list hq
      refine wpAny_pyIter_list p.isList ?_
      exact ⟨s1.heap.objs.size, [s1.heap.objs.size], _, _, H1, rfl, I1.kept (t' := s1.toks) fun b o e => Heap.get?_push_of_some _ e, turn_list a _, ⟨_, Heap.get?_push_size _ rfl, rfl, rfl⟩, fp, q⟩
    · obtain ⟨its, rv, p, hz⟩ := I1.tuple hq
      refine wpAny_pyIter_tuple (show s1.heap.IsTuple a its.toArray from p) ?_
      exact ⟨s1.heap.objs.size, [s1.heap.objs.size], _, _, H1, rfl, I1.kept (t' := s1.toks) fun b o e => Heap.get?_push_of_some _ e, turn_tuple a _, ⟨_, Heap.get?_push_size _ rfl, rfl, rfl⟩, fp, q⟩
  · subst e
    obtain ⟨t, rfl⟩ := r1
    cases ha : z.cps.all (· < 128)
    · exact wpAny_pyIter_wide ha (pi_one (tk := s1.toks) I1 _ (turn_str _ z t "str_iterator" (.inr rfl)) ⟨_, Heap.get?_push_size _ rfl, rfl, rfl⟩ q)
    · exact wpAny_pyIter_ascii ha (pi_one (tk := s1.toks) I1 _ (turn_str _ z t "str_ascii_iterator" (.inl rfl)) ⟨_, Heap.get?_push_size _ rfl, rfl, rfl⟩ q)
/-! ### walks by data -/
variable {K : PySem.W.Frag} {B H : Hp}
theorem wlk_at {J : It} {G : Hp → Prop} {xs : List V} {ds : List PyData} (w : Walk J xs.length G (YAt xs)) (r : RA K B xs ds) (hG : ∀ B1 H1, Ex B B1 → Ex B1 H1 → G H1) : Wlk K B J ds := by
  refine ⟨G, YAt xs, by rw [← r.length]; exact w, hG, fun i B1 H1 v H2 _ e1 e2 y => ?_⟩
  obtain ⟨rfl, h⟩ := y
  obtain ⟨d, h1, h2⟩ := r.getV h
  exact ⟨B1, d, h1, .refl e2, h2.mono e1⟩
def signs (z : Str) : List PyData := z.cps.toList.map fun c => .str ⟨#[c]⟩
theorem wlk_str (z : Str) : Wlk K B (Its z) (signs z) := by
  refine ⟨_, _, by have w := walk_str (z := z); rw [show (signs z).length = z.cps.size by simp [signs]]; exact w, fun _ _ _ _ => trivial, fun i B1 H1 v H2 _ e1 e2 y => ?_⟩
  obtain ⟨rfl, c, h, rfl⟩ := y
  refine ⟨B1, .str ⟨#[c]⟩, ?_, .refl e2, .str _⟩
  unfold signs
  rw [List.getElem?_map, Array.getElem?_toList, h]
  rfl
def rng (lo : Int) (n : Nat) : List PyData := (List.range n).map fun (i : Nat) => PyData.int (lo + (i : Int))
theorem wlk_rng (lo : Int) (n : Nat) : Wlk K B (Itr lo n) (rng lo n) := by
  refine ⟨_, _, by have w := walk_range (lo := lo) (n := n); rw [show (rng lo n).length = n by simp [rng]]; exact w, fun _ _ _ _ => trivial, fun i B1 H1 v H2 hi e1 e2 y => ?_⟩
  obtain ⟨rfl, rfl⟩ := y
  have hi : i < n := by simpa [rng] using hi
  exact ⟨B1, .int (lo + (i : Int)), by simp [rng, hi], .refl e2, .int _⟩
/-- the items a value has -/
def itemsD : PyData → M (List PyData)
  | .list ds => .ok ds
  | .tuple ds => .ok ds
  | .str z => .ok (signs z)
  | _ => .stuck
def iOf (f : Env → M Sl) : Env → M (List PyData) := fun ρ => (f ρ).bind fun x => itemsD x.d
theorem di_any (h : DE X E e fa) : DI X E tg e (iOf fa) := by
  obtain ⟨t, p, h⟩ := h
  refine ⟨_, pi_any p, fun B0 H0 B H σ ρ Q re q => ?_⟩
  refine run_e h re ?_
  rcases q.bind with ⟨x, e1, q⟩ | ⟨x, e1, q⟩
  · refine .inl ⟨x, e1, fun v B1 H1 g1 r1 => ?_⟩
    have q := IPost.grow g1 q
    cases z : x.d with
    | list ds =>
      rw [z] at q r1
      cases r1 with
      | lst hl ra => exact .inl ⟨_, rfl, .inl ⟨_, .of (g1.s _ _ hl), q _ B1 H1 (.refl g1.s) (wlk_at walk_list ra fun B2 H2 e1 e2 => .of (e2 _ _ (e1 _ _ hl)))⟩⟩
    | tuple ds =>
      rw [z] at q r1
      cases r1 with
      | tup hl ra => exact .inl ⟨_, rfl, .inr ⟨_, ex_u g1.s hl, q _ B1 H1 (.refl g1.s) (wlk_at walk_tup ra fun B2 H2 e1 e2 => ex_t e2 (ex_u e1 hl))⟩⟩
    | str w =>
      rw [z] at q r1
      cases r1
      exact .inr ⟨w, rfl, q _ B1 H1 (.refl g1.s) (wlk_str w)⟩
    | none => rw [z] at q; exact q.elim
    | bool b => rw [z] at q; exact q.elim
    | int b => rw [z] at q; exact q.elim
    | dict b => rw [z] at q; exact q.elim
  · exact .inr ⟨x, e1, q⟩
/-- new pairs of the i-th of two lists -/
theorem wlk_pair {J : It} {n : Nat} {G : Hp → Prop} {f g : Nat → Option V} {ds : List PyData} (w : Walk J n G (YPair f g)) (hn : ds.length = n) (hG : ∀ B1 H1, Ex B B1 → Ex B1 H1 → G H1)
    (hr : ∀ (i : Nat) x y, i < n → f i = some x → g i = some y → ∃ d d', ds[i]? = some (.tuple [d, d']) ∧ R K B x d ∧ R K B y d') : Wlk K B J ds := by
  refine ⟨G, _, by rw [hn]; exact w, hG, fun i B1 H1 v H2 hi e1 e2 y => ?_⟩
  obtain ⟨T, x, z, rfl, hT, rfl, h1, h2⟩ := y
  obtain ⟨d, d', h3, r1, r2⟩ := hr i x z (by rw [← hn]; exact hi) h1 h2
  have ne := Ex.new (o := HO.tup [x, z]) (e2.back hT)
  exact ⟨_, _, h3, .new e2 hT, .tup upd_same (.cons ((r1.mono e1).mono ne) (.cons ((r2.mono e1).mono ne) .nil))⟩
def enumD (ds : List PyData) : List PyData := ds.mapIdx fun i d => .tuple [.int (i : Nat), d]
theorem wlk_enum {a : Addr} {xs : List V} {ds : List PyData} {J : It} {G : Hp → Prop} (w : Walk J xs.length G (YPair (fun i => some (.int (i : Nat))) (fun i => xs[i]?))) (r : RA K B xs ds) (hG : ∀ B1 H1, Ex B B1 → Ex B1 H1 → G H1) : Wlk K B J (enumD ds) := by
  refine wlk_pair w (by simp [enumD, r.length]) hG fun i x y hi h1 h2 => ?_
  cases h1
  obtain ⟨d, h3, r3⟩ := r.getV h2
  exact ⟨.int (i : Nat), d, by simp [enumD, h3], .int _, r3⟩
theorem walk_enumT {a : Addr} {xs : List V} : Walk (IteT K a) xs.length (fun H => SqT K H a xs) (YPair (fun i => some (.int (i : Nat))) (fun i => xs[i]?)) := by
  refine ⟨fun i _ hi q => ⟨xs, xs[i], q, by simp [hi]⟩, fun _ q => ⟨xs, q, Nat.le_refl _⟩, fun i H v H' _ q y => ?_⟩
  obtain ⟨T, x, h1, h2, h3, h4⟩ := y
  exact ⟨T, .int (i : Nat), x, h1, h2, h3, rfl, h4 xs q⟩
theorem walk_zipT {a b : Addr} {xs ys : List V} {n : Nat} (hn : n = min xs.length ys.length) : Walk (ItzT K a b) n (fun H => SqT K H a xs ∧ SqT K H b ys) (YPair (fun i => xs[i]?) (fun i => ys[i]?)) := by
  subst hn
  refine ⟨fun i _ hi q => ?_, fun _ q => ⟨xs, ys, q.1, q.2, by omega⟩, fun i H v H' _ q y => ?_⟩
  · have h1 : i < xs.length := by omega
    have h2 : i < ys.length := by omega
    exact ⟨xs, ys, xs[i], ys[i], q.1, q.2, by simp [h1], by simp [h2]⟩
  · obtain ⟨T, x, z, h1, h2, h3, h4, h5⟩ := y
    exact ⟨T, x, z, h1, h2, h3, h4 xs q.1, h5 ys q.2⟩
def zipD (xs ys : List PyData) : List PyData := List.zipWith (fun a b => .tuple [a, b]) xs ys
theorem wlk_zip {xs ys : List V} {ds es : List PyData} {n : Nat} {J : It} {G : Hp → Prop} (hn : n = min xs.length ys.length) (w : Walk J n G (YPair (fun i => xs[i]?) (fun i => ys[i]?))) (r : RA K B xs ds) (q : RA K B ys es) (hG : ∀ B1 H1, Ex B B1 → Ex B1 H1 → G H1) : Wlk K B J (zipD ds es) := by
  refine wlk_pair w (by simp [zipD, hn, r.length, q.length]) hG fun i x y hi h1 h2 => ?_
  obtain ⟨d, h3, r3⟩ := r.getV h1
  obtain ⟨d', h4, r4⟩ := q.getV h2
  exact ⟨d, d', by simp [zipD, List.getElem?_zipWith, h3, h4], r3, r4⟩
/-- enumerate -/
def enumOf (ds : List PyData) : M (List PyData) := match ds with
  | [.list l] => .ok (enumD l)
  | [.tuple l] => .ok (enumD l)
  | _ => .stuck
def iAr (f : Env → M (List PyData)) (g : List PyData → M (List PyData)) : Env → M (List PyData) := fun ρ => (f ρ).bind g
theorem di_enum {fs : Env → M (List PyData)} {p tpos : Pos} {elts : List Expr} {kk : Nat} (hg : Gl X "enumerate") (hm : X.mg "enumerate" = none) (h : DA X E [e] fs) (hs : starEach [e] X.env = [(false, eval e X.env)] := by rfl) :
    DI X E (.Tuple elts kk tpos) (.Call (.Name "enumerate" p) [e] [] pos) (iAr fs enumOf) := by
  obtain ⟨t, pt, h⟩ := h
  refine ⟨_, pi_enumT hg hm pt hs, fun B0 H0 B H σ ρ Q re q => ?_⟩
  refine run_a h re ?_
  rcases q.bind with ⟨ds, e1, q⟩ | ⟨x, e1, q⟩
  · refine .inl ⟨ds, e1, fun vs B1 H1 g1 r1 => ?_⟩
    have q := IPost.grow g1 q
    unfold enumOf at q
    split at q
    · rename_i l
      cases r1 with
      | cons r1 r2 =>
        cases r2
        cases r1 with
        | lst hl ra => exact ⟨_, rfl, .inl ⟨_, .of (g1.s _ _ hl), q _ B1 H1 (.refl g1.s) (wlk_enum (a := 0) walk_enum ra fun B2 H2 e1 e2 => .of (e2 _ _ (e1 _ _ hl)))⟩⟩
    · rename_i l
      cases r1 with
      | cons r1 r2 =>
        cases r2
        cases r1 with
        | tup hl ra => exact ⟨_, rfl, .inr ⟨_, ex_u g1.s hl, q _ B1 H1 (.refl g1.s) (wlk_enum (a := 0) walk_enumT ra fun B2 H2 e1 e2 => ex_t e2 (ex_u e1 hl))⟩⟩
    · exact q.elim
  · exact .inr ⟨x, e1, q⟩
def zipOf (ds : List PyData) : M (List PyData) := match ds with
  | [.list a, .list b] => .ok (zipD a b)
  | [.tuple a, .tuple b] => .ok (zipD a b)
  | _ => .stuck
theorem di_zip {fs : Env → M (List PyData)} {p tpos : Pos} {elts : List Expr} {kk : Nat} (hg : Gl X "zip") (hm : X.mg "zip" = none) (h : DA X E [e, e2] fs)
    (hs : starEach [e, e2] X.env = (false, eval e X.env) :: starEach [e2] X.env := by rfl) (hpl : (backTo pos (starEach [e2] X.env)).any (·.1) = false := by rfl) :
    DI X E (.Tuple elts kk tpos) (.Call (.Name "zip" p) [e, e2] [] pos) (iAr fs zipOf) := by
  obtain ⟨t, pt, h⟩ := h
  refine ⟨_, pi_zipA hg hm pt hs hpl, fun B0 H0 B H σ ρ Q re q => ?_⟩
  refine run_a h re ?_
  rcases q.bind with ⟨ds, e1, q⟩ | ⟨x, e1, q⟩
  · refine .inl ⟨ds, e1, fun vs B1 H1 g1 r1 => ?_⟩
    have q := IPost.grow g1 q
    unfold zipOf at q
    split at q
    · cases r1 with
      | cons r1 r2 =>
        cases r2 with
        | cons r2 r3 =>
          cases r3
          cases r1 with
          | lst hl ra =>
            cases r2 with
            | lst hm rb => exact ⟨_, _, _, _, rfl, .inl ⟨.of (g1.s _ _ hl), .of (g1.s _ _ hm), q _ B1 H1 (.refl g1.s) (wlk_zip rfl (walk_zip rfl) ra rb fun B2 H2 e1 e2 => ⟨.of (e2 _ _ (e1 _ _ hl)), .of (e2 _ _ (e1 _ _ hm))⟩)⟩⟩
    · cases r1 with
      | cons r1 r2 =>
        cases r2 with
        | cons r2 r3 =>
          cases r3
          cases r1 with
          | tup hl ra =>
            cases r2 with
            | tup hm rb => exact ⟨_, _, _, _, rfl, .inr ⟨ex_u g1.s hl, ex_u g1.s hm, q _ B1 H1 (.refl g1.s) (wlk_zip rfl (walk_zipT rfl) ra rb fun B2 H2 e1 e2 => ⟨ex_t e2 (ex_u e1 hl), ex_t e2 (ex_u e1 hm)⟩)⟩⟩
    · exact q.elim
  · exact .inr ⟨x, e1, q⟩
/-- range -/
def rngOk (i : Int) : Bool := decide (i.natAbs ≤ 4611686018427387903)
def rng1Of (ds : List PyData) : M (List PyData) := match ds with
  | [.int j] => if rngOk j = true then .ok (rng 0 j.toNat) else .stuck
  | _ => .stuck
def rng2Of (ds : List PyData) : M (List PyData) := match ds with
  | [.int i, .int j] => if rngOk i = true ∧ rngOk j = true then .ok (rng i (j - i).toNat) else .stuck
  | _ => .stuck
theorem rngOk_ok {i : Int} (h : rngOk i = true) : -(2 ^ 62) ≤ i ∧ i < 2 ^ 62 := by
  have := of_decide_eq_true h
  omega
theorem di_rng1 {fs : Env → M (List PyData)} {p : Pos} (hg : Gl X "range") (hm : X.mg "range" = none) (h : DA X E [e] fs) (hs : starEach [e] X.env = [(false, eval e X.env)] := by rfl) : DI X E tg (.Call (.Name "range" p) [e] [] pos) (iAr fs rng1Of) := by
  obtain ⟨t, pt, h⟩ := h
  refine ⟨_, pi_range1 hg hm pt hs, fun B0 H0 B H σ ρ Q re q => ?_⟩
  refine run_a h re ?_
  rcases q.bind with ⟨ds, e1, q⟩ | ⟨x, e1, q⟩
  · refine .inl ⟨ds, e1, fun vs B1 H1 g1 r1 => ?_⟩
    have q := IPost.grow g1 q
    unfold rng1Of at q
    split at q
    · split at q
      · rename_i hb
        cases r1 with
        | cons r1 r2 =>
          cases r2
          cases r1
          have k := rngOk_ok hb
          exact ⟨_, rfl, k.1, k.2, q _ B1 H1 (.refl g1.s) (wlk_rng 0 _)⟩
      · exact q.elim
    · exact q.elim
  · exact .inr ⟨x, e1, q⟩
theorem di_rng2 {fs : Env → M (List PyData)} {p : Pos} (hg : Gl X "range") (hm : X.mg "range" = none) (h : DA X E [e, e2] fs) (hs : starEach [e, e2] X.env = [(false, eval e X.env), (false, eval e2 X.env)] := by rfl) (hs2 : starEach [e2] X.env = [(false, eval e2 X.env)] := by rfl) :
    DI X E tg (.Call (.Name "range" p) [e, e2] [] pos) (iAr fs rng2Of) := by
  obtain ⟨t, pt, h⟩ := h
  refine ⟨_, pi_range2 hg hm pt hs hs2, fun B0 H0 B H σ ρ Q re q => ?_⟩
  refine run_a h re ?_
  rcases q.bind with ⟨ds, e1, q⟩ | ⟨x, e1, q⟩
  · refine .inl ⟨ds, e1, fun vs B1 H1 g1 r1 => ?_⟩
    have q := IPost.grow g1 q
    unfold rng2Of at q
    split at q
    · split at q
      · rename_i hb
        cases r1 with
        | cons r1 r2 =>
          cases r2 with
          | cons r2 r3 =>
            cases r3
            cases r1
            cases r2
            have k := rngOk_ok hb.1
            have k2 := rngOk_ok hb.2
            exact ⟨_, _, rfl, ⟨k.1, k.2, k2.1, k2.2⟩, q _ B1 H1 (.refl g1.s) (wlk_rng _ _)⟩
      · exact q.elim
    · exact q.elim
  · exact .inr ⟨x, e1, q⟩
/-! ### comprehensions -/
def noX {α : Type} (r : M α) : M α := match r with
  | .exc _ => .stuck
  | r => r
def wipeE (ρ : Env) : List Nat → Env
  | [] => ρ
  | v :: vs => (wipeE ρ vs).set v none
theorem ER.wipe {B0 H0 : Hp} {σ : L2.St} {ρ : Env} (r : ER K B0 H0 B H σ ρ) : ∀ vs : List Nat, ER K B0 H0 B H (wipe σ vs) (wipeE ρ vs)
  | [] => r
  | _ :: vs => (ER.wipe r vs).drop
def lcF (bd : PyData → Env → M Env) (tt : Env → M Bool) (fe : Env → M Sl) : List PyData → Env → M (List PyData)
  | [], _ => .ok []
  | d :: ds, ρ => (noX (bd d ρ)).bind fun ρ1 => (noX (tt ρ1)).bind fun b => if b = true then (noX (fe ρ1)).bind fun y => (lcF bd tt fe ds ρ).bind fun ys => .ok (y.d :: ys) else lcF bd tt fe ds ρ
def eLc (fi : Env → M (List PyData)) (own : List Nat) (bd : PyData → Env → M Env) (tt : Env → M Bool) (fe : Env → M Sl) : Env → M Sl := fun ρ => (fi ρ).bind fun ds => (lcF bd tt fe ds (wipeE ρ own)).bind fun ys => if big ys.length = true then .ok (.own (.list ys)) else .stuck
theorem lcF_ne {bd : PyData → Env → M Env} {tt : Env → M Bool} {fe : Env → M Sl} : ∀ (ds : List PyData) (ρ : Env) (x : Str), lcF bd tt fe ds ρ ≠ .exc x
  | [], _, _, h => by cases h
  | d :: ds, ρ, x, h => by
    unfold lcF at h
    cases z1 : bd d ρ with
    | stuck => rw [z1] at h; cases h
    | exc y => rw [z1] at h; cases h
    | ok ρ1 =>
      rw [z1] at h
      simp only [noX, bind_ok] at h
      cases z2 : tt ρ1 with
      | stuck => rw [z2] at h; cases h
      | exc y => rw [z2] at h; cases h
      | ok b =>
        rw [z2] at h
        simp only [bind_ok] at h
        split at h
        · cases z3 : fe ρ1 with
          | stuck => rw [z3] at h; cases h
          | exc y => rw [z3] at h; cases h
          | ok y =>
            rw [z3] at h
            simp only [bind_ok] at h
            cases z4 : lcF bd tt fe ds ρ with
            | stuck => rw [z4] at h; cases h
            | exc y => exact lcF_ne ds ρ y z4
            | ok ys => rw [z4] at h; cases h
        · exact lcF_ne ds ρ x h
def DTs (X : Cx) (E : XK) (ifs : List Expr) (f : Env → M Bool) : Prop := ∃ t, PTs X ifs t ∧ ∀ B0 H0 B H σ ρ Q, ER X.K B0 H0 B H σ ρ → TPost X.K E B H (f ρ) Q → t σ H Q
theorem dts_nil : DTs X E [] (fun _ => .ok true) := ⟨_, pts_nil, fun B0 H0 B H σ ρ Q re q => q B H (.refl re.gr.s)⟩
theorem dts_one {c : Expr} {f : Env → M Bool} (h : DT X E c f) : DTs X E [c] f := let ⟨_, p, h⟩ := h; ⟨_, pts_one p, h⟩
theorem wipe_wipe {σ : L2.St} (vs : List Nat) : wipe (wipe σ vs) vs = wipe σ vs := by
  refine List.ext_getElem? fun j => ?_
  by_cases hj : j ∈ vs
  · rcases wipe_none (σ := σ) hj with e | e
    · rcases wipe_none (σ := wipe σ vs) hj with e2 | e2
      · rw [e, e2]
      · rw [wipe_length] at e2
        rw [List.getElem?_eq_none (by rw [wipe_length]; exact e2), List.getElem?_eq_none e2]
    · rw [List.getElem?_eq_none (by rw [wipe_length]; exact e), List.getElem?_eq_none e]
  · rw [wipe_not hj]
/-- the reading of a comprehension by data -/
theorem run_lc {X : Cx} {wi : TI} {g : TG} {tt : TT} {te : TE} {fi : Env → M (List PyData)} {own sl : List Nat} {bd : PyData → Env → M Env} {ft : Env → M Bool} {fe : Env → M Sl} (hsl : ∀ i ∈ sl, i ∈ own)
    (hi : ∀ B0 H0 B H σ ρ Q, ER X.K B0 H0 B H σ ρ → IPost X.K E B H (fi ρ) Q → wi σ H Q)
    (hg : ∀ B0 H0 B H σ ρ v d ρ' (Q : L2.St → Hp → Prop), ER X.K B0 H0 B H σ ρ → R X.K B v d → bd d ρ = .ok ρ' → (∀ σ', ER X.K B0 H0 B H σ' ρ' → OnlyAt sl σ σ' → Q σ' H) → g v σ H Q)
    (ht : ∀ B0 H0 B H σ ρ Q, ER X.K B0 H0 B H σ ρ → TPost X.K E0 B H (ft ρ) Q → tt σ H Q) (he : ∀ B0 H0 B H σ ρ Q, ER X.K B0 H0 B H σ ρ → EPost X.K E0 B H (fe ρ) Q → te σ H Q) :
    ∀ B0 H0 B H σ ρ Q, ER X.K B0 H0 B H σ ρ → EPost X.K E B H (eLc fi own bd ft fe ρ) Q → tLc wi g tt te own σ H Q := by
  intro B0 H0 B H σ ρ Q re q
  refine hi B0 H0 B H σ ρ _ re ?_
  rcases q.bind with ⟨ds, e1, q⟩ | ⟨x, e1, q⟩
  · rw [e1]
    intro J B1 H1 g1 w
    have q := EPost.grow g1 q
    rcases q.bind with ⟨ys, e2, q⟩ | ⟨x, e2, _⟩
    · split at q
      · rename_i hbig
        obtain ⟨G, Y, w, hG, hY⟩ := w
        intro D hD
        have re1 := re.grow g1
        refine lc_it w (fun i H' => ∃ B' acc dn rest, Gr B1 H1 B' H' ∧ B' D = none ∧ H' D = some (.lst acc) ∧ RA X.K B' acc dn ∧ lcF bd ft fe (ds.drop i) (wipeE ρ own) = .ok rest ∧ dn ++ rest = ys)
          ⟨B1, [], [], ys, .own g1.s hD, g1.s.back hD, upd_same, .nil, e2, rfl⟩ (fun i H' _ ⟨B', _, _, _, g', _⟩ => hG B' H' g'.b g'.s) ?_ ?_
        · rintro i v H2 H3 hlt ⟨B', acc, dn, rs, g', nD, hacc, ra, hrest, hy⟩ y
          obtain ⟨B2, d, hd, g2, rv⟩ := hY i B' H2 v H3 hlt g'.b g'.s y
          have hdr : ds.drop i = d :: ds.drop (i + 1) := by
            have hh : i < ds.length := hlt
            rw [List.getElem?_eq_getElem hh] at hd
            cases hd
            exact List.drop_eq_getElem_cons hh
          rw [hdr] at hrest
          unfold lcF at hrest
          have g12 := g'.trans g2
          cases z1 : bd d (wipeE ρ own) with
          | stuck => rw [z1] at hrest; cases hrest
          | exc x => rw [z1] at hrest; cases hrest
          | ok ρ1 =>
            rw [z1] at hrest
            simp only [noX, bind_ok] at hrest
            refine hg B0 H0 B2 H3 (wipe σ own) (wipeE ρ own) v d ρ1 _ ((re1.grow g12).wipe own) rv z1 fun σ2 re2 only => ⟨(only own hsl).trans (wipe_wipe own), ?_⟩
            refine ht B0 H0 B2 H3 σ2 ρ1 _ re2 ?_
            cases z2 : ft ρ1 with
            | stuck => rw [z2] at hrest; cases hrest
            | exc x => rw [z2] at hrest; cases hrest
            | ok b =>
              rw [z2] at hrest
              simp only [bind_ok] at hrest
              intro B3 H4 g3
              have g13 := g12.trans g3
              have n3 : B3 D = none := (g2.trans g3).lm hacc nD (fun _ h => nomatch h)
              have a3 : H4 D = some (.lst acc) := (g2.trans g3).h D _ hacc
              cases b with
              | false =>
                rw [if_neg Bool.false_ne_true] at hrest ⊢
                exact ⟨B3, acc, dn, rs, g13, n3, a3, ra.mono (g2.trans g3).b, hrest, hy⟩
              | true =>
                rw [if_pos rfl] at hrest ⊢
                refine he B0 H0 B3 H4 σ2 ρ1 _ (re2.grow g3) ?_
                cases z3 : fe ρ1 with
                | stuck => rw [z3] at hrest; cases hrest
                | exc x => rw [z3] at hrest; cases hrest
                | ok yv =>
                  rw [z3] at hrest
                  simp only [bind_ok] at hrest
                  cases z4 : lcF bd ft fe (ds.drop (i + 1)) (wipeE ρ own) with
                  | stuck => rw [z4] at hrest; cases hrest
                  | exc x => rw [z4] at hrest; cases hrest
                  | ok rs' =>
                    rw [z4] at hrest
                    cases hrest
                    intro u B4 H5 g4 r4
                    obtain ⟨B5, g5, r5⟩ := r4.fix g4
                    have g15 := g13.trans g5
                    have n5 : B5 D = none := g5.lm a3 n3 (fun _ h => nomatch h)
                    have a5 : H5 D = some (.lst acc) := g5.h D _ a3
                    have hlen : acc.length < sizeLine := by
                      have k := big_ok hbig
                      have k2 : dn.length + (rs'.length + 1) = ys.length := by rw [← hy, List.length_append, List.length_cons]
                      rw [ra.length]
                      omega
                    refine ⟨acc, a5, hlen, B5, acc ++ [u], dn ++ [yv.d], rs', ⟨g15.b, fun a o h => ?_, fun a o h => ?_, g15.l⟩, n5, upd_same, (ra.mono ((g2.trans g3).b.trans g5.b)).snoc r5, rfl, by rw [List.append_assoc]; exact hy⟩
                    · rw [upd_ne (ne_of_none h hD)]
                      exact g15.h a o h
                    · rw [upd_ne (ne_of_none h n5)]
                      exact g15.s a o h
        · rintro H2 ⟨B', acc, dn, rs, g', nD, hacc, ra, hrest, hy⟩
          rw [List.drop_length] at hrest
          cases hrest
          rw [List.append_nil] at hy
          subst hy
          exact q _ B' H2 g' ⟨D, _, rfl, hD, nD, hacc, .lst ra⟩
      · exact q.elim
    · exact absurd e2 (lcF_ne _ _ _)
  · rw [e1]
    exact q
/-! the readings that need no more than the data -/
def rdE (K : PySem.W.Frag) (E : XK) (f : Env → M Sl) : TE := fun σ H Q => ∃ B0 H0 B ρ, ER K B0 H0 B H σ ρ ∧ EPost K E B H (f ρ) Q
def rdT (K : PySem.W.Frag) (E : XK) (f : Env → M Bool) : TT := fun σ H Q => ∃ B0 H0 B ρ, ER K B0 H0 B H σ ρ ∧ TPost K E B H (f ρ) Q
def rdG (K : PySem.W.Frag) (sl : List Nat) (bd : PyData → Env → M Env) : TG := fun v σ H Q => ∃ B0 H0 B ρ d ρ', ER K B0 H0 B H σ ρ ∧ R K B v d ∧ bd d ρ = .ok ρ' ∧ ∀ σ', ER K B0 H0 B H σ' ρ' → OnlyAt sl σ σ' → Q σ' H
theorem DE.pe {X : Cx} (h : DE X E e fa) : PE X e (rdE X.K E fa) := by
  obtain ⟨t, p, h⟩ := h
  exact ⟨fun pins s σ H Q I ⟨B0, H0, B, ρ, re, q⟩ => p.run pins s σ H Q I (h B0 H0 B H σ ρ Q re q)⟩
theorem DTs.pts {X : Cx} {ifs : List Expr} {ft : Env → M Bool} (h : DTs X E ifs ft) : PTs X ifs (rdT X.K E ft) := by
  obtain ⟨t, p, h⟩ := h
  exact ⟨fun pins s σ H Q I ⟨B0, H0, B, ρ, re, q⟩ => p.run pins s σ H Q I (h B0 H0 B H σ ρ Q re q)⟩
theorem DG.pg {X : Cx} {sl : List Nat} {bd : PyData → Env → M Env} (h : DG X tg sl bd) : PG X tg (rdG X.K sl bd) := by
  obtain ⟨t, p, h⟩ := h
  exact ⟨fun pins s σ H v u Q I r ⟨B0, H0, B, ρ, d, ρ', re, rv, e, q⟩ => p.run pins s σ H v u Q I r (h B0 H0 B H σ ρ v d ρ' Q re rv e q)⟩
variable {elt iter : Expr} {ifs : List Expr} {scope : Scope} {own : List (Str × Nat)} {sl : List Nat} {bd : PyData → Env → M Env} {ft : Env → M Bool} {fe : Env → M Sl} {fi : Env → M (List PyData)}
theorem de_lc (hc : X.calm = true) (hN : X.N.Nodup) (hi : DI X E tg iter fi) (ok : BlkOk X.N X.env.scope scope own) (hsl : ∀ i ∈ sl, i ∈ own.map (·.2))
    (hg : ∀ (s : Shared) (H : Hp) (C : Addr) (cl : List (Str × Addr)) (fp : List Addr), DG (X.blk s H scope (compEnvC scope cl C X.env) fp) tg sl bd)
    (ht : ∀ (s : Shared) (H : Hp) (C : Addr) (cl : List (Str × Addr)) (fp : List Addr), DTs (X.blk s H scope (compEnvC scope cl C X.env) fp) E0 ifs ft)
    (he : ∀ (s : Shared) (H : Hp) (C : Addr) (cl : List (Str × Addr)) (fp : List Addr), DE (X.blk s H scope (compEnvC scope cl C X.env) fp) E0 elt fe) (hs : ∀ x, foldedSetIterable iter X.env x = pure x := by intro _; rfl) :
    DE X E (.ListComp elt [⟨tg, iter, ifs, 0⟩] scope pos) (eLc fi (own.map (·.2)) bd ft fe) := by
  obtain ⟨wi, pi, hi⟩ := hi
  exact ⟨_, pe_lc (g := rdG X.K sl bd) (tt := rdT X.K E0 ft) (te := rdE X.K E0 fe) hc hN pi ok (fun s H C cl fp => (hg s H C cl fp).pg) (fun s H C cl fp => (ht s H C cl fp).pts) (fun s H C cl fp => (he s H C cl fp).pe) hs,
    run_lc hsl hi (fun B0 H0 B H σ ρ v d ρ' Q re rv e q => ⟨B0, H0, B, ρ, d, ρ', re, rv, e, q⟩) (fun B0 H0 B H σ ρ Q re q => ⟨B0, H0, B, ρ, re, q⟩) (fun B0 H0 B H σ ρ Q re q => ⟨B0, H0, B, ρ, re, q⟩)⟩
/-- name = [..] -/
theorem ds_setLc {i : Nat} {y : Str} {py spos : Pos} (hc : X.calm = true) (hN : X.N.Nodup) (hy : X.N[i]? = some y) (hyl : X.env.scope.names.lookup y = some .local)
    (hsw : swapsWith (.ListComp elt [⟨tg, iter, ifs, 0⟩] scope pos) (some (.Name y py)) spos.line X.env = pure true) (hi : DI X E tg iter fi) (ok : BlkOk X.N X.env.scope scope own) (hsl : ∀ i ∈ sl, i ∈ own.map (·.2))
    (hg : ∀ (s : Shared) (H : Hp) (C : Addr) (cl : List (Str × Addr)) (fp : List Addr), DG (X.blk s H scope (compEnvC scope cl C X.env) fp) tg sl bd)
    (ht : ∀ (s : Shared) (H : Hp) (C : Addr) (cl : List (Str × Addr)) (fp : List Addr), DTs (X.blk s H scope (compEnvC scope cl C X.env) fp) E0 ifs ft)
    (he : ∀ (s : Shared) (H : Hp) (C : Addr) (cl : List (Str × Addr)) (fp : List Addr), DE (X.blk s H scope (compEnvC scope cl C X.env) fp) E0 elt fe) (hs : ∀ x, foldedSetIterable iter X.env x = pure x := by intro _; rfl) :
    DS X E (.Assign [.Name y py] (.ListComp elt [⟨tg, iter, ifs, 0⟩] scope pos) spos) (oSet i (eLc fi (own.map (·.2)) bd ft fe)) := by
  obtain ⟨wi, pi, hi⟩ := hi
  refine ⟨_, ps_setLc (g := rdG X.K sl bd) (tt := rdT X.K E0 ft) (te := rdE X.K E0 fe) hc hN hy hyl hsw pi ok (fun s H C cl fp => (hg s H C cl fp).pg) (fun s H C cl fp => (ht s H C cl fp).pts) (fun s H C cl fp => (he s H C cl fp).pe) hs, fun B0 H0 B H σ ρ D re q => ?_⟩
  refine run_lc (sl := sl) (bd := bd) (ft := ft) (fe := fe) hsl hi (fun B0 H0 B H σ ρ v d ρ' Q re rv e q => ⟨B0, H0, B, ρ, d, ρ', re, rv, e, q⟩) (fun B0 H0 B H σ ρ Q re q => ⟨B0, H0, B, ρ, re, q⟩) (fun B0 H0 B H σ ρ Q re q => ⟨B0, H0, B, ρ, re, q⟩) B0 H0 B H σ ρ _ re ?_
  exact epost_of re q fun sl _ q v B' H' g r => q B' H' _ g.b (re.put g r)
end
end Dl
/-! The data layer: operators. -/
namespace Dl
open PySem PySem.Spec PyProof.Rows L2
section
variable {X : Cx} {E : XK}
abbrev retB (b : Bool) : M Sl := .ok (.dat (.bool b))
abbrev retI (i : Int) : M Sl := .ok (.dat (.int i))
abbrev retS (x : Str) : M Sl := .ok (.dat (.str x))
/-! ### == -/
def gEqB (d e : PyData) : M Bool := match d, e with
  | .int i, .int j => .ok (decide (i = j))
  | .str i, .str j => .ok (decide (i = j))
  | .bool i, .bool j => .ok (decide (i = j))
  | d, e => if SeqAt.shaped d = true ∧ SeqAt.shaped e = true then .ok (PyData.eqv d e) else .stuck
def gEq (d e : PyData) : M Sl := (gEqB d e).bind fun b => retB b
def gNe (d e : PyData) : M Sl := (gEqB d e).bind fun b => retB (!b)
theorem eq_cases {K : PySem.W.Frag} {B H : Hp} {x y : V} {d e : PyData} {Q : Bool → Prop} (ex : Ex B H) (rx : R K B x d) (ry : R K B y e) (h : ∃ b, gEqB d e = .ok b ∧ Q b) :
    (scal x y = true ∧ Q (decide (x = y))) ∨ ∃ d e, Dp K H x d ∧ Dp K H y e ∧ SeqAt.shaped d = true ∧ SeqAt.shaped e = true ∧ Q (PyData.eqv d e) := by
  obtain ⟨b, hb, q⟩ := h
  unfold gEqB at hb
  split at hb
  · cases rx
    cases ry
    cases hb
    refine .inl ⟨rfl, ?_⟩
    rename_i i j
    rw [show (decide (V.int i = V.int j)) = decide (i = j) by simp]
    exact q
  · cases rx
    cases ry
    cases hb
    refine .inl ⟨rfl, ?_⟩
    rename_i i j
    rw [show (decide (V.str i = V.str j)) = decide (i = j) by simp]
    exact q
  · cases rx
    cases ry
    cases hb
    refine .inl ⟨rfl, ?_⟩
    rename_i i j
    rw [show (decide (V.bl i = V.bl j)) = decide (i = j) by simp]
    exact q
  · split at hb
    · rename_i hs
      cases hb
      exact .inr ⟨d, e, (rx.mono ex).dp (SeqAt.canLay_of_shaped hs.1), (ry.mono ex).dp (SeqAt.canLay_of_shaped hs.2), hs.1, hs.2, q⟩
    · cases hb
theorem gEqB_ne {d e : PyData} {x : Str} : gEqB d e ≠ .exc x := by
  unfold gEqB
  split <;> try (intro h; cases h; done)
  split <;> (intro h; cases h)
def rEqA (K : PySem.W.Frag) : R2 := fun x y H Q => rEq x y H Q ∨ rEqD K x y H Q
def rNeA (K : PySem.W.Frag) : R2 := fun x y H Q => rNe x y H Q ∨ rNeD K x y H Q
theorem op_eqA (hu : X.A.units + 64 < cLine) : OpR X (compareOp .Eq) (rEqA X.K) := op_eq.or (op_eqD hu)
theorem op_neA (hu : X.A.units + 64 < cLine) : OpR X (compareOp .NotEq) (rNeA X.K) := op_ne.or (op_neD hu)
theorem od_eq : OpD X E (rEqA X.K) gEq := by
  intro x y d e B H Q ex rx ry q
  unfold gEq at q
  cases hb : gEqB d e with
  | stuck => rw [hb] at q; exact q.elim
  | exc x => exact (gEqB_ne hb).elim
  | ok b =>
    rw [hb] at q
    exact (eq_cases (Q := fun b => Q (.bl b) H) ex rx ry ⟨b, hb, q.val ex (.bl _)⟩)
theorem od_ne : OpD X E (rNeA X.K) gNe := by
  intro x y d e B H Q ex rx ry q
  unfold gNe at q
  cases hb : gEqB d e with
  | stuck => rw [hb] at q; exact q.elim
  | exc x => exact (gEqB_ne hb).elim
  | ok b =>
    rw [hb] at q
    exact (eq_cases (Q := fun b => Q (.bl (!b)) H) ex rx ry ⟨b, hb, q.val ex (.bl _)⟩)
/-! ### < <= > >= -/
def cmpI (op : CmpOp) (i j : Int) : Bool := match op with
  | .Lt => decide (i < j)
  | .LtE => decide (i ≤ j)
  | .Gt => decide (j < i)
  | .GtE => decide (j ≤ i)
  | _ => false
def lexD (op : CmpOp) (f : PyData → PyData → Option Bool) : List PyData → List PyData → Option Bool
  | [], [] => some (cmpI op 0 0)
  | [], _ :: _ => some (cmpI op 0 1)
  | _ :: _, [] => some (cmpI op 1 0)
  | x :: xs, y :: ys => if PyData.eqv x y = true then lexD op f xs ys else (lexD op f xs ys).bind fun _ => f x y
def cmpD (op : CmpOp) : Nat → PyData → PyData → Option Bool
  | 0, _, _ => none
  | _ + 1, .int i, .int j => some (cmpI op i j)
  | n + 1, .tuple a, .tuple b => lexD op (cmpD op n) a b
  | _ + 1, _, _ => none
def isCmp (op : CmpOp) : Bool := match op with
  | .Lt => true
  | .LtE => true
  | .Gt => true
  | .GtE => true
  | _ => false
theorem lexAt_shift (e r : Nat → Bool) (z : Bool) : ∀ (k i : Nat), Ob.lexAt (fun j => e (j + 1)) (fun j => r (j + 1)) z i k = Ob.lexAt e r z (i + 1) k
  | 0, _ => rfl
  | k + 1, i => by
    rw [Ob.lexAt_succ, Ob.lexAt_succ, lexAt_shift e r z k (i + 1)]
theorem cmpI_shift {op : CmpOp} {a b : Nat} : cmpI op ((a + 1 : Nat) : Int) ((b + 1 : Nat) : Int) = cmpI op (a : Int) (b : Int) := by
  cases op <;> simp only [cmpI, decide_eq_decide] <;> omega
theorem lexD_spec {op : CmpOp} {f : PyData → PyData → Option Bool} : ∀ {xs ys : List PyData} {b : Bool}, lexD op f xs ys = some b →
    (∀ j, j < xs.length → j < ys.length → SeqAt.pairEq xs ys j = false → f (xs.getD j .none) (ys.getD j .none) = some ((f (xs.getD j .none) (ys.getD j .none)).getD false)) ∧
    Ob.lexAt (fun j => SeqAt.pairEq xs ys j) (fun j => (f (xs.getD j .none) (ys.getD j .none)).getD false) (cmpI op xs.length ys.length) 0 (min xs.length ys.length) = b
  | [], [], b, h => ⟨fun j h1 => absurd h1 (Nat.not_lt_zero _), Option.some.inj h⟩
  | [], y :: ys, b, h => by
    refine ⟨fun j h1 => absurd h1 (Nat.not_lt_zero _), ?_⟩
    rw [← Option.some.inj h]
    show cmpI op ((0 : Nat) : Int) ((ys.length + 1 : Nat) : Int) = cmpI op 0 1
    cases op <;> simp only [cmpI, decide_eq_decide] <;> omega
  | x :: xs, [], b, h => by
    refine ⟨fun j _ h1 => absurd h1 (Nat.not_lt_zero _), ?_⟩
    rw [← Option.some.inj h]
    show cmpI op ((xs.length + 1 : Nat) : Int) ((0 : Nat) : Int) = cmpI op 1 0
    cases op <;> simp only [cmpI, decide_eq_decide] <;> omega
  | x :: xs, y :: ys, b, h => by
    have step : ∀ b', lexD op f xs ys = some b' → (PyData.eqv x y = false → f x y = some ((f x y).getD false)) → (∀ j, j < (x :: xs).length → j < (y :: ys).length → SeqAt.pairEq (x :: xs) (y :: ys) j = false → f ((x :: xs).getD j .none) ((y :: ys).getD j .none) = some ((f ((x :: xs).getD j .none) ((y :: ys).getD j .none)).getD false)) ∧
        Ob.lexAt (fun j => SeqAt.pairEq (x :: xs) (y :: ys) j) (fun j => (f ((x :: xs).getD j .none) ((y :: ys).getD j .none)).getD false) (cmpI op (x :: xs).length (y :: ys).length) 1 (min xs.length ys.length) = b' := by
      intro b' hb hxy
      obtain ⟨h1, h2⟩ := lexD_spec hb
      refine ⟨fun j l1 l2 e => ?_, ?_⟩
      · cases j with
        | zero => exact hxy e
        | succ j => exact h1 j (Nat.lt_of_succ_lt_succ l1) (Nat.lt_of_succ_lt_succ l2) e
      · rw [← h2, ← lexAt_shift]
        show Ob.lexAt _ _ (cmpI op ((xs.length + 1 : Nat) : Int) ((ys.length + 1 : Nat) : Int)) _ _ = _
        rw [cmpI_shift]
        rfl
    have hmin : min (x :: xs).length (y :: ys).length = min xs.length ys.length + 1 := by
      simp only [List.length_cons]
      omega
    unfold lexD at h
    split at h
    · rename_i hxy
      obtain ⟨k1, k2⟩ := step b h fun e => by rw [hxy] at e; cases e
      refine ⟨k1, ?_⟩
      rw [hmin, Ob.lexAt_succ, if_pos (show SeqAt.pairEq (x :: xs) (y :: ys) 0 = true from hxy)]
      exact k2
    · rename_i hxy
      cases q : lexD op f xs ys with
      | none => rw [q] at h; cases h
      | some b' =>
        rw [q] at h
        have hf : f x y = some b := h
        obtain ⟨k1, _⟩ := step b' q fun _ => by rw [hf]; rfl
        refine ⟨k1, ?_⟩
        rw [hmin, Ob.lexAt_succ, if_neg (show ¬ SeqAt.pairEq (x :: xs) (y :: ys) 0 = true from hxy)]
        show (f x y).getD false = b
        rw [hf]
        rfl
theorem rc_tuples {op : CmpOp} (hop : isCmp op = true) {A : Around} {s : Shared} {l b : Addr} {items items2 : Array Value} {e r : Nat → Bool} (hl : s.heap.IsTuple l items) (hb : s.heap.IsTuple b items2) (hu : A.units < cLine)
    (he : ∀ j (h1 : j < items.size) (h2 : j < items2.size), SeqAt.EqAt A.in1 s items[j] items2[j] (e j))
    (hr : ∀ j (h1 : j < items.size) (h2 : j < items2.size), e j = false → Ob.RcOp op A.in1 s items[j] items2[j] (r j)) :
    Ob.RcOp op A s (.ref l) (.ref b) (Ob.lexAt e r (cmpI op items.size items2.size) 0 (min items.size items2.size)) := by
  cases op with
  | Lt =>
    have := Ob.RcOp.tuples_lt hl hb hu he hr
    rw [show cmpI .Lt items.size items2.size = decide (items.size < items2.size) by simp [cmpI]]
    exact this
  | LtE =>
    have := Ob.RcOp.tuples_le hl hb hu he hr
    rw [show cmpI .LtE items.size items2.size = decide (items.size ≤ items2.size) by simp [cmpI]]
    exact this
  | Gt =>
    have := Ob.RcOp.tuples_gt hl hb hu he hr
    rw [show cmpI .Gt items.size items2.size = decide (items2.size < items.size) by simp [cmpI]]
    exact this
  | GtE =>
    have := Ob.RcOp.tuples_ge hl hb hu he hr
    rw [show cmpI .GtE items.size items2.size = decide (items2.size ≤ items.size) by simp [cmpI]]
    exact this
  | _ => cases hop
theorem rc_ints {op : CmpOp} (hop : isCmp op = true) {A : Around} {s : Shared} (i j : Int) (t u : Tok) : Ob.RcOp op A s (.int i t) (.int j u) (cmpI op i j) := by
  cases op with
  | Lt => exact .lt_int i j t u
  | LtE => exact .le_int i j t u
  | Gt => exact .gt_int i j t u
  | GtE => exact .ge_int i j t u
  | _ => cases hop
open SeqAt in
theorem readsAll_get {h : Heap} : ∀ {vs : List Value} {ds : List PyData} {as : List Addr}, ReadsAll h vs ds as → ∀ j (hj : j < vs.length), j < ds.length ∧ ∃ bs, Reads h vs[j] (ds.getD j .none) bs
  | _, _, _, .cons r q, 0, _ => ⟨Nat.zero_lt_succ _, _, r⟩
  | _, _, _, .cons r q, j + 1, hj => by
    obtain ⟨h1, h2⟩ := readsAll_get q j (Nat.lt_of_succ_lt_succ hj)
    exact ⟨Nat.succ_lt_succ h1, h2⟩
open SeqAt in
theorem rc_reads {op : CmpOp} (hop : isCmp op = true) : ∀ (n : Nat) (da db : PyData) (A : Around) (s : Shared) (a b : Value) (as bs : List Addr) (r : Bool), Reads s.heap a da as → Reads s.heap b db bs → da.canLay0 = true → db.canLay0 = true →
    cmpD op n da db = some r → A.units + da.depth + db.depth < cLine → Ob.RcOp op A s a b r
  | 0, _, _, _, _, _, _, _, _, _, _, _, _, _, h, _ => by cases h
  | n + 1, .int i, .int j, A, s, a, b, _, _, r, ra, rb, _, _, h, _ => by
    cases ra
    cases rb
    cases h
    exact rc_ints hop _ _ _ _
  | n + 1, .tuple xs, .tuple ys, A, s, a, b, _, _, r, ra, rb, ha, hb, h, hu => by
    cases ra with
    | @tuple l o vs m _ as₁ h1 h2 h3 h4 =>
      cases rb with
      | @tuple l' o' vs' m' _ bs₁ k1 k2 k3 k4 =>
        have hl : s.heap.IsTuple l vs := ⟨_, h1, h2, _, h3⟩
        have hl' : s.heap.IsTuple l' vs' := ⟨_, k1, k2, _, k3⟩
        have n1 : vs.size = xs.length := by simpa using ReadsAll.length _ _ _ h4
        have n2 : vs'.size = ys.length := by simpa using ReadsAll.length _ _ _ k4
        have hd1 : (PyData.tuple xs).depth = PyData.depthAll xs + 1 := by rw [PyData.depth]
        have hd2 : (PyData.tuple ys).depth = PyData.depthAll ys + 1 := by rw [PyData.depth]
        rw [hd1, hd2] at hu
        have h : lexD op (cmpD op n) xs ys = some r := h
        obtain ⟨q1, q2⟩ := lexD_spec h
        have lay : ∀ (zs : List PyData) j, j < zs.length → PyData.canLayAll0 zs = true → (zs.getD j .none).canLay0 = true := by
          intro zs
          induction zs with
          | nil => intro j hj _; exact absurd hj (Nat.not_lt_zero _)
          | cons z zs ih =>
            intro j hj hc
            rw [PyData.canLayAll0, Bool.and_eq_true] at hc
            cases j with
            | zero => exact hc.1
            | succ j => exact ih j (Nat.lt_of_succ_lt_succ hj) hc.2
        have dep : ∀ (zs : List PyData) j, j < zs.length → (zs.getD j .none).depth ≤ PyData.depthAll zs := by
          intro zs j hj
          refine PyData.depth_le_depthAll zs _ ?_
          rw [List.getD_eq_getElem?_getD, List.getElem?_eq_getElem hj]
          exact List.getElem_mem hj
        have ha' : PyData.canLayAll0 xs = true := by simpa [PyData.canLay0] using ha
        have hb' : PyData.canLayAll0 ys = true := by simpa [PyData.canLay0] using hb
        rw [← q2, ← n1, ← n2]
        refine rc_tuples hop hl hl' (by omega) (fun j j1 j2 => ?_) fun j j1 j2 ne => ?_
        · have := SeqAt.eqAt_readsAll xs ys A.in1 s vs.toList vs'.toList _ _ h4 k4 ha' hb' (by show A.units + 1 + _ < _; omega) j (by simpa using j1) (by simpa using j2)
          simpa using this
        · obtain ⟨l1, _, r1⟩ := readsAll_get h4 j (by simpa using j1)
          obtain ⟨l2, _, r2⟩ := readsAll_get k4 j (by simpa using j2)
          have d1 := dep xs j l1
          have d2 := dep ys j l2
          have := rc_reads hop n _ _ A.in1 s _ _ _ _ _ r1 r2 (lay xs j l1 ha') (lay ys j l2 hb') (q1 j l1 l2 ne) (by show A.units + 1 + _ + _ < _; omega)
          simpa using this
  | n + 1, .none, _, _, _, _, _, _, _, _, _, _, _, _, h, _ => by cases h
  | n + 1, .bool _, _, _, _, _, _, _, _, _, _, _, _, _, h, _ => by cases h
  | n + 1, .str _, _, _, _, _, _, _, _, _, _, _, _, _, h, _ => by cases h
  | n + 1, .list _, _, _, _, _, _, _, _, _, _, _, _, _, h, _ => by cases h
  | n + 1, .dict _, _, _, _, _, _, _, _, _, _, _, _, _, h, _ => by cases h
  | n + 1, .int _, .none, _, _, _, _, _, _, _, _, _, _, _, h, _ => by cases h
  | n + 1, .int _, .bool _, _, _, _, _, _, _, _, _, _, _, _, h, _ => by cases h
  | n + 1, .int _, .str _, _, _, _, _, _, _, _, _, _, _, _, h, _ => by cases h
  | n + 1, .int _, .list _, _, _, _, _, _, _, _, _, _, _, _, h, _ => by cases h
  | n + 1, .int _, .tuple _, _, _, _, _, _, _, _, _, _, _, _, h, _ => by cases h
  | n + 1, .int _, .dict _, _, _, _, _, _, _, _, _, _, _, _, h, _ => by cases h
  | n + 1, .tuple _, .none, _, _, _, _, _, _, _, _, _, _, _, h, _ => by cases h
  | n + 1, .tuple _, .bool _, _, _, _, _, _, _, _, _, _, _, _, h, _ => by cases h
  | n + 1, .tuple _, .str _, _, _, _, _, _, _, _, _, _, _, _, h, _ => by cases h
  | n + 1, .tuple _, .list _, _, _, _, _, _, _, _, _, _, _, _, h, _ => by cases h
  | n + 1, .tuple _, .int _, _, _, _, _, _, _, _, _, _, _, _, h, _ => by cases h
  | n + 1, .tuple _, .dict _, _, _, _, _, _, _, _, _, _, _, _, h, _ => by cases h
/-- data of ints and tuples of them, four deep: a op b -/
def rCmpD (K : PySem.W.Frag) (op : CmpOp) : R2 := fun x y H Q => ∃ d e b, Dp K H x d ∧ Dp K H y e ∧ SeqAt.shaped d = true ∧ SeqAt.shaped e = true ∧ d.depth ≤ 30 ∧ e.depth ≤ 30 ∧ cmpD op 4 d e = some b ∧ Q (.bl b) H
theorem op_cmpD {op : CmpOp} (hop : isCmp op = true) (hu : X.A.units + 64 < cLine) : OpR X (compareOp op) (rCmpD X.K op) := by
  intro pins s σ H x y v u Q I rx ry h
  obtain ⟨d, e, b, hd, he, sd, se, dd, de, hc, q⟩ := h
  obtain ⟨as, r1⟩ := Dp.reads I d x v hd rx
  obtain ⟨bs, r2⟩ := Dp.reads I e y u he ry
  have z := rc_reads hop 4 d e X.A s v u as bs b r1 r2 (SeqAt.canLay_of_shaped sd) (SeqAt.canLay_of_shaped se) hc (by omega)
  cases op with
  | Lt => exact z X.prog X.w X.xe (EP X pins σ Q) ⟨.bl _, H, I, rfl, q⟩
  | LtE => exact z X.prog X.w X.xe (EP X pins σ Q) ⟨.bl _, H, I, rfl, q⟩
  | Gt => exact z X.prog X.w X.xe (EP X pins σ Q) ⟨.bl _, H, I, rfl, q⟩
  | GtE => exact z X.prog X.w X.xe (EP X pins σ Q) ⟨.bl _, H, I, rfl, q⟩
  | _ => cases hop
def rCmpA (K : PySem.W.Frag) (op : CmpOp) : R2 := fun x y H Q => rI0 (fun i j => .bl (cmpI op i j)) x y H Q ∨ rCmpD K op x y H Q
theorem op_cmpA {op : CmpOp} (hop : isCmp op = true) (hu : X.A.units + 64 < cLine) : OpR X (compareOp op) (rCmpA X.K op) := by
  cases op with
  | Lt => exact op_lt.or (op_cmpD hop hu)
  | LtE => exact op_le.or (op_cmpD hop hu)
  | Gt => exact op_gt.or (op_cmpD hop hu)
  | GtE => exact op_ge.or (op_cmpD hop hu)
  | _ => cases hop
def gCmp (op : CmpOp) (d e : PyData) : M Sl := match d, e with
  | .int i, .int j => retB (cmpI op i j)
  | d, e => if SeqAt.shaped d = true ∧ SeqAt.shaped e = true ∧ d.depth ≤ 30 ∧ e.depth ≤ 30 then (match cmpD op 4 d e with
    | some b => retB b
    | none => .stuck) else .stuck
theorem od_cmp {op : CmpOp} : OpD X E (rCmpA X.K op) (gCmp op) := by
  intro x y d e B H Q ex rx ry q
  unfold gCmp at q
  split at q
  · cases rx
    cases ry
    exact .inl ⟨_, _, rfl, rfl, q.val ex (.bl _)⟩
  · split at q
    · rename_i h
      obtain ⟨h1, h2, h3, h4⟩ := h
      split at q
      · rename_i b hb
        exact .inr ⟨d, e, b, (rx.mono ex).dp (SeqAt.canLay_of_shaped h1), (ry.mono ex).dp (SeqAt.canLay_of_shaped h2), h1, h2, h3, h4, hb, q.val ex (.bl _)⟩
      · exact q.elim
    · exact q.elim
/-! ### is None -/
def isNoneD (d : PyData) : Bool := match d with
  | .none => true
  | _ => false
def gIsN (d e : PyData) : M Sl := match e with
  | .none => retB (isNoneD d)
  | _ => .stuck
def gNotN (d e : PyData) : M Sl := match e with
  | .none => retB (!isNoneD d)
  | _ => .stuck
theorem isN_of {K : PySem.W.Frag} {B : Hp} {x : V} {d : PyData} (r : R K B x d) : decide (x = .non) = isNoneD d := by cases r <;> simp [isNoneD]
theorem od_isN : OpD X E (fun x y H Q => y = .non ∧ Q (.bl (decide (x = .non))) H) gIsN := by
  intro x y d e B H Q ex rx ry q
  unfold gIsN at q
  split at q
  · cases ry
    refine ⟨rfl, ?_⟩
    rw [isN_of rx]
    exact q.val ex (.bl _)
  · exact q.elim
theorem od_notN : OpD X E (fun x y H Q => y = .non ∧ Q (.bl (!decide (x = .non))) H) gNotN := by
  intro x y d e B H Q ex rx ry q
  unfold gNotN at q
  split at q
  · cases ry
    refine ⟨rfl, ?_⟩
    rw [isN_of rx]
    exact q.val ex (.bl _)
  · exact q.elim
/-! ### arithmetic -/
def rAddA (K : PySem.W.Frag) : R2 := fun x y H Q => rI0 (fun i j => .int (i + j)) x y H Q ∨ (∃ i j, x = .str i ∧ y = .str j ∧ i.length + j.length ≤ sizeLine ∧ Q (.str (i ++ j)) H) ∨ rCatA K x y H Q ∨ rCat x y H Q
theorem op_addA : OpR X (binaryOp .Add) (rAddA X.K) := op_add.or (op_add_str.or (op_catA.or op_cat))
def gAdd (d e : PyData) : M Sl := match d, e with
  | .int i, .int j => retI (i + j)
  | .str a, .str b => if big (a.length + b.length) = true then retS (a ++ b) else .stuck
  | .tuple a, .tuple b => if big (a.length + b.length) = true then .ok (.dat (.tuple (a ++ b))) else .stuck
  | .list a, .list b => if big (a.length + b.length) = true then .ok (.own (.list (a ++ b))) else .stuck
  | _, _ => .stuck
theorem RA.nil_iff {K : PySem.W.Frag} {B : Hp} {xs : List V} {ds : List PyData} (r : RA K B xs ds) : xs = [] ↔ ds = [] := by
  cases r <;> simp
theorem od_add : OpD X E (rAddA X.K) gAdd := by
  intro x y d e B H Q ex rx ry q
  unfold gAdd at q
  split at q
  · cases rx
    cases ry
    exact .inl ⟨_, _, rfl, rfl, q.val ex (.int _)⟩
  · cases rx
    cases ry
    split at q
    · rename_i h
      exact .inr (.inl ⟨_, _, rfl, rfl, big_ok h, q.val ex (.str _)⟩)
    · exact q.elim
  · split at q
    · rename_i h
      cases rx with
      | tup h1 r1 =>
        cases ry with
        | tup h2 r2 =>
          refine .inr (.inr (.inl ⟨_, _, _, _, rfl, rfl, ex_u ex h1, ex_u ex h2, by rw [r1.length, r2.length]; exact big_ok h, fun z => ?_, fun z z2 => ?_, fun z z2 p hp => ?_⟩))
          · have := r1.nil_iff.mp z
            subst this
            exact q.val ex (.tup h2 r2)
          · have := r2.nil_iff.mp z2
            subst this
            rw [List.append_nil] at q
            exact q.val ex (.tup h1 r1)
          · have nb := ex.back hp
            exact q.new ex hp (.tup upd_same ((r1.append r2).mono (.new nb)))
    · exact q.elim
  · split at q
    · rename_i h
      cases rx with
      | lst h1 r1 =>
        cases ry with
        | lst h2 r2 => exact .inr (.inr (.inr ⟨_, _, _, _, rfl, rfl, ex _ _ h1, ex _ _ h2, by rw [r1.length, r2.length]; exact big_ok h, fun p hp => q.own ex hp (.lst (r1.append r2))⟩))
    · exact q.elim
  · exact q.elim
def gSub (d e : PyData) : M Sl := match d, e with
  | .int i, .int j => retI (i - j)
  | _, _ => .stuck
theorem od_sub : OpD X E (rI0 fun i j => .int (i - j)) gSub := by
  intro x y d e B H Q ex rx ry q
  unfold gSub at q
  split at q
  · cases rx
    cases ry
    exact ⟨_, _, rfl, rfl, q.val ex (.int _)⟩
  · exact q.elim
/-- int * int, one of them small; text * int -/
def smallI (i : Int) : Bool := decide (i.natAbs ≤ 18446744073709551615)
theorem smallI_ok {i : Int} (h : smallI i = true) : -(2 ^ 64) < i ∧ i < 2 ^ 64 := by
  have := of_decide_eq_true h
  omega
def rMulS : R2 := fun x y H Q => ∃ z n, x = .str z ∧ y = .int n ∧ MulOk z n ∧ Q (.str (Txt.mul z n)) H
theorem op_mulS : OpR X (binaryOp .Mult) rMulS := by
  intro pins s σ H x y v u Q I rx ry h
  obtain ⟨z, n, rfl, rfl, hm, q⟩ := h
  obtain ⟨t, rfl⟩ := rx
  obtain ⟨t', rfl⟩ := ry
  exact SB.mul hm fun t2 k => ⟨.str _, H, I.tok _, ⟨_, rfl⟩, q⟩
def rMulA : R2 := fun x y H Q => rI CMul (fun i j => .int (i * j)) x y H Q ∨ rMulS x y H Q
theorem op_mulA : OpR X (binaryOp .Mult) rMulA := op_mul.or op_mulS
def gMul (d e : PyData) : M Sl := match d, e with
  | .int i, .int j => if smallI i = true ∨ smallI j = true then retI (i * j) else .stuck
  | .str z, .int n => if z.length ≤ 100 ∧ 0 ≤ n ∧ n ≤ 10000 then retS (Txt.mul z n) else .stuck
  | _, _ => .stuck
theorem od_mul : OpD X E rMulA gMul := by
  intro x y d e B H Q ex rx ry q
  unfold gMul at q
  split at q
  · split at q
    · rename_i h
      cases rx
      cases ry
      exact .inl ⟨_, _, rfl, rfl, h.elim (fun h => .inl (smallI_ok h)) (fun h => .inr (smallI_ok h)), q.val ex (.int _)⟩
    · exact q.elim
  · split at q
    · rename_i h
      cases rx
      cases ry
      exact .inr ⟨_, _, rfl, rfl, PyProof.Rows.mulOk_of 100 10000 h.1 h.2.2 (by have := h.2.1; omega) (by decide) (by decide), q.val ex (.str _)⟩
    · exact q.elim
  · exact q.elim
def gMod (d e : PyData) : M Sl := match d, e with
  | .int i, .int j => if 0 < j then retI (i % j) else .stuck
  | _, _ => .stuck
theorem od_mod : OpD X E (rI (fun _ j => 0 < j) fun i j => .int (i % j)) gMod := by
  intro x y d e B H Q ex rx ry q
  unfold gMod at q
  split at q
  · split at q
    · rename_i h
      cases rx
      cases ry
      exact ⟨_, _, rfl, rfl, h, q.val ex (.int _)⟩
    · exact q.elim
  · exact q.elim
def gDiv (d e : PyData) : M Sl := match d, e with
  | .int i, .int j => if 0 < j ∧ j < 18446744073709551616 then retI (i / j) else .stuck
  | _, _ => .stuck
theorem od_div : OpD X E (rI CDivW fun i j => .int (i / j)) gDiv := by
  intro x y d e B H Q ex rx ry q
  unfold gDiv at q
  split at q
  · split at q
    · rename_i h
      cases rx
      cases ry
      refine ⟨_, _, rfl, rfl, wide_div (b := 64) h.1 ?_ (by decide) (by decide), q.val ex (.int _)⟩
      have := h.2
      omega
    · exact q.elim
  · exact q.elim
def gPow (d e : PyData) : M Sl := match d, e with
  | .int i, .int j => if 0 ≤ j ∧ j ≤ 1000 ∧ smallI i = true then retI (i ^ j.toNat) else .stuck
  | _, _ => .stuck
theorem od_pow : OpD X E (rI CPow fun i j => .int (i ^ j.toNat)) gPow := by
  intro x y d e B H Q ex rx ry q
  unfold gPow at q
  split at q
  · split at q
    · rename_i h
      cases rx
      cases ry
      have k := smallI_ok h.2.2
      exact ⟨_, _, rfl, rfl, ⟨h.1, by have := h.2.1; omega, by omega⟩, q.val ex (.int _)⟩
    · exact q.elim
  · exact q.elim
def gNeg (d : PyData) : M Sl := match d with
  | .int i => retI (-i)
  | _ => .stuck
theorem ud_neg : UnD X E (rU fun i => .int (-i)) gNeg := by
  intro x d B H Q ex rx q
  unfold gNeg at q
  split at q
  · cases rx
    exact ⟨_, rfl, q.val ex (.int _)⟩
  · exact q.elim
end
end Dl
/-! The data layer: subscripts, slices, len, in, calls of built-in names. -/
namespace Dl
open PySem PySem.Spec PyProof.Rows L2
section
variable {X : Cx} {E : XK} {a b c e : Expr} {fa fb fc : Env → M Sl} {pos : Pos}
/-! ### subscripts -/
theorem RA.at {K : PySem.W.Frag} {B : Hp} {vs : List V} {ds : List PyData} {i : Int} {d : PyData} (r : RA K B vs ds) (h : atI ds i = some d) : ∃ v, atI vs i = some v ∧ R K B v d := by
  unfold atI at h ⊢
  rw [r.length]
  cases q : ixN ds.length i with
  | none => rw [q] at h; cases h
  | some j =>
    rw [q] at h
    exact r.get h
def gIx (d e : PyData) : M Sl := match d, e with
  | .list ds, .int i => (match atI ds i with
    | some d => .ok (.dat d)
    | none => .stuck)
  | .tuple ds, .int i => (match atI ds i with
    | some d => .ok (.dat d)
    | none => .stuck)
  | .dict [(.none, .list ds)], .int i => (match atI ds i with
    | some d => .ok (.dat d)
    | none => .stuck)
  | .str z, .int i => if big z.length = true then (match atI z.cps.toList i with
    | some c => retS ⟨#[c]⟩
    | none => .stuck) else .stuck
  | _, _ => .stuck
theorem scr_inv {K : PySem.W.Frag} {B : Hp} {x : V} {l : List PyData} (r : R K B x (.dict [(.none, .list l)])) : ∃ (a : Addr) (ns : List Int), x = .ref a ∧ SqL K B a (ns.map V.int) ∧ l = ns.map PyData.int := by
  generalize hg : PyData.dict [(PyData.none, PyData.list l)] = D at r
  cases r with
  | scr h =>
    injection hg with hg
    injection hg with hg _
    injection hg with _ hg
    injection hg with hg
    exact ⟨_, _, rfl, h, hg⟩
  | dK h r =>
    rename_i kvs vs
    cases kvs with
    | nil => cases hg
    | cons kv kvs =>
      cases vs with
      | nil => cases hg
      | cons v vs =>
        injection hg with hg
        injection hg with hg _
        injection hg with hg _
        obtain ⟨k, _⟩ := kv
        cases k <;> cases hg
  | dT h r =>
    rename_i kvs vs
    cases kvs with
    | nil => cases hg
    | cons kv kvs =>
      cases vs with
      | nil => cases hg
      | cons v vs =>
        injection hg with hg
        injection hg with hg _
        injection hg with hg _
        cases hg
  | ins h r =>
    injection hg with hg
    injection hg with hg _
    injection hg with _ hg
    cases hg
  | _ => cases hg
theorem od_ix : OpD X E (rIx X.K) gIx := by
  intro x y d e B H Q ex rx ry q
  unfold gIx at q
  split at q
  · split at q
    · rename_i dd hd
      cases ry
      cases rx with
      | lst h r =>
        obtain ⟨v, h1, h2⟩ := r.at hd
        exact .inl ⟨_, _, _, v, rfl, rfl, .of (ex _ _ h), h1, q.val ex h2⟩
    · exact q.elim
  · split at q
    · rename_i dd hd
      cases ry
      cases rx with
      | tup h r =>
        obtain ⟨v, h1, h2⟩ := r.at hd
        exact .inr (.inl ⟨_, _, _, v, rfl, rfl, ex_u ex h, h1, q.val ex h2⟩)
    · exact q.elim
  · rename_i ds i
    split at q
    · rename_i dd hd
      cases ry
      obtain ⟨a, ns, rfl, h, rfl⟩ := scr_inv rx
      have r := ra_ints (K := X.K) (H := H) ns
      obtain ⟨v, h1, h2⟩ := r.at hd
      have hi : ∃ n, dd = PyData.int n := by
        have : dd ∈ ns.map PyData.int := by
          unfold atI at hd
          cases z : ixN (ns.map PyData.int).length i with
          | none => rw [z] at hd; cases hd
          | some j =>
            rw [z] at hd
            exact List.mem_of_getElem? hd
        obtain ⟨n, _, hn⟩ := List.mem_map.mp this
        exact ⟨n, hn.symm⟩
      obtain ⟨n, rfl⟩ := hi
      cases h2
      exact .inl ⟨_, _, _, _, rfl, rfl, Same.seq ex h, h1, q.val ex (.int n)⟩
    · exact q.elim
  · split at q
    · rename_i hb
      split at q
      · rename_i cc hd
        cases ry
        cases rx
        exact .inr (.inr ⟨_, _, cc, rfl, rfl, big_ok hb, hd, q.val ex (.str _)⟩)
      · exact q.elim
    · exact q.elim
  · exact q.elim
theorem de_ix (ha : DE X E a fa) (hb : DE X E b fb) (hs : PlainIx b) : DE X E (.Subscript a b pos) (eOp gIx fa fb) := by
  obtain ⟨ta, pa, ha⟩ := ha
  obtain ⟨tb, pb, hb⟩ := hb
  exact ⟨_, pe_ix ix_seq pa pb hs, run_op od_ix ha hb⟩
/-! ### slices -/
def DO (X : Cx) (E : XK) (e : Option Expr) (f : Env → M (Option Int)) : Prop := ∃ t, PO X e t ∧ ∀ B0 H0 B H σ ρ (Q : Option Int → Hp → Prop), ER X.K B0 H0 B H σ ρ →
  ((∃ o, f ρ = .ok o ∧ ∀ B' H', Gr B H B' H' → Q o H') ∨ ∃ x, f ρ = .exc x ∧ ∀ H', Ex H H' → E (.ref (He.ga X.K x)) none H') → t σ H Q
def sNone : Env → M (Option Int) := fun _ => .ok none
def isI (d : PyData) : M Int := match d with
  | .int i => .ok i
  | _ => .stuck
def sSome (f : Env → M Sl) : Env → M (Option Int) := fun ρ => (f ρ).bind fun x => (isI x.d).bind fun i => .ok (some i)
theorem do_none : DO X E none sNone := by
  refine ⟨_, po_none, fun B0 H0 B H σ ρ Q re q => ?_⟩
  rcases q with ⟨o, h, q⟩ | ⟨x, h, _⟩
  · cases h
    exact q B H (.refl re.gr.s)
  · cases h
theorem do_some (h : DE X E e fa) : DO X E (some e) (sSome fa) := by
  obtain ⟨t, p, h⟩ := h
  refine ⟨_, po_some p, fun B0 H0 B H σ ρ Q re q => ?_⟩
  refine run_e h re ?_
  unfold sSome at q
  cases z : fa ρ with
  | stuck =>
    rw [z] at q
    rcases q with ⟨o, h, _⟩ | ⟨x, h, _⟩ <;> cases h
  | exc x =>
    rw [z] at q
    rcases q with ⟨o, h, _⟩ | ⟨y, h, q⟩
    · cases h
    · cases h
      exact .inr ⟨x, rfl, q⟩
  | ok sl =>
    refine .inl ⟨sl, rfl, fun v B' H' g r => ?_⟩
    rw [z, bind_ok] at q
    cases zd : sl.d with
    | int i =>
      rw [zd] at q r
      cases r
      rcases q with ⟨o, h, q⟩ | ⟨x, h, _⟩
      · cases h
        exact ⟨i, rfl, q B' H' g⟩
      · cases h
    | _ =>
      rw [zd] at q
      rcases q with ⟨o, h, _⟩ | ⟨x, h, _⟩ <;> cases h
def cutD (ds : List PyData) (lo hi : Option Int) : List PyData := (ds.drop (HT.sIx ds.length 0 lo)).take (HT.sIx ds.length ds.length hi - HT.sIx ds.length 0 lo)
theorem RA.cut {K : PySem.W.Frag} {B : Hp} {vs : List V} {ds : List PyData} (r : RA K B vs ds) (lo hi : Option Int) : RA K B (cutV vs lo hi) (cutD ds lo hi) := by
  unfold cutV cutD
  rw [r.length]
  exact (r.drop _).take _
def gSl (d : PyData) (lo hi : Option Int) : M Sl := match d with
  | .list ds => .ok (.own (.list (cutD ds lo hi)))
  | .tuple ds => .ok (.dat (.tuple (cutD ds lo hi)))
  | .str z => if big z.length = true then retS (cutS z lo hi) else .stuck
  | _ => .stuck
def rSlX (K : PySem.W.Frag) : V → Option Int → Option Int → Hp → VK → Prop := fun x lo hi H Q => rSlL K x lo hi H Q ∨ rSlA K x lo hi H Q ∨ rSlS x lo hi H Q
theorem sl_X : SlR X (rSlX X.K) := sl_list.or (sl_tupA.or sl_str)
theorem sld {x : V} {d : PyData} {lo hi : Option Int} {B H : Hp} {Q : VK} (ex : Ex B H) (rx : R X.K B x d) (q : EPost X.K E B H (gSl d lo hi) Q) : rSlX X.K x lo hi H Q := by
  unfold gSl at q
  split at q
  · cases rx with
    | lst h r => exact .inl ⟨_, _, rfl, .of (ex _ _ h), fun p hp => q.own ex hp (.lst (r.cut lo hi))⟩
  · cases rx with
    | tup h r =>
      refine .inr (.inl ⟨_, _, rfl, ex_u ex h, fun z => ?_, fun z p hp => ?_⟩)
      · refine q.val ex ?_
        have rc := r.cut lo hi
        unfold cutV at rc
        rw [z.1, z.2] at rc
        simp only [List.drop_zero, Nat.sub_zero, List.take_length] at rc
        exact .tup h rc
      · exact q.new ex hp (.tup upd_same ((r.cut lo hi).mono (.new (ex.back hp))))
  · split at q
    · rename_i hb
      cases rx
      exact .inr (.inr ⟨_, rfl, big_ok hb, q.val ex (.str _)⟩)
    · exact q.elim
  · exact q.elim
def eSl (f : Env → M Sl) (lo hi : Env → M (Option Int)) : Env → M Sl := fun ρ => (f ρ).bind fun x => (lo ρ).bind fun i => (hi ρ).bind fun j => gSl x.d i j
theorem de_sl {lo hi : Option Expr} {fl fh : Env → M (Option Int)} {p2 : Pos} (h : DE X E e fa) (hl : DO X E lo fl) (hh : DO X E hi fh) : DE X E (.Subscript e (.Slice lo hi none p2) pos) (eSl fa fl fh) := by
  obtain ⟨t, p, h⟩ := h
  obtain ⟨tl, pl, hl⟩ := hl
  obtain ⟨th, ph, hh⟩ := hh
  refine ⟨_, pe_slice sl_X p pl ph, fun B0 H0 B H σ ρ Q re q => ?_⟩
  refine run_e h re ?_
  rcases q.bind with ⟨x, e1, q⟩ | ⟨x, e1, q⟩
  · refine .inl ⟨x, e1, fun v B1 H1 g1 r1 => ?_⟩
    refine hl B0 H0 B1 H1 σ ρ _ (re.grow g1) ?_
    rcases (EPost.grow g1 q).bind with ⟨i, e2, q⟩ | ⟨i, e2, q⟩
    · refine .inl ⟨i, e2, fun B2 H2 g2 => ?_⟩
      refine hh B0 H0 B2 H2 σ ρ _ ((re.grow g1).grow g2) ?_
      rcases (EPost.grow g2 q).bind with ⟨j, e3, q⟩ | ⟨j, e3, q⟩
      · exact .inl ⟨j, e3, fun B3 H3 g3 => sld g3.s (r1.mono (g2.b.trans g3.b)) (EPost.grow g3 q)⟩
      · exact .inr ⟨j, e3, q⟩
    · exact .inr ⟨i, e2, q⟩
  · exact .inr ⟨x, e1, q⟩
/-! ### len -/
def gLen (ds : List PyData) : M Sl := match ds with
  | [.list l] => retI l.length
  | [.tuple l] => retI l.length
  | [.str z] => if big z.length = true then retI z.length else .stuck
  | [.dict [(.none, .list l)]] => retI l.length
  | _ => .stuck
def rLenA (K : PySem.W.Frag) : List V → Hp → VK → Prop := fun xs H Q => (∃ p ys, xs = [.ref p] ∧ (SqL K H p ys ∨ SqT K H p ys) ∧ Q (.int ys.length) H) ∨ ∃ z, xs = [.str z] ∧ z.length ≤ sizeLine ∧ Q (.int z.length) H
theorem call_lenA : CallR X (.builtin "len") (rLenA X.K) := call_len_seq.or call_len_str
theorem cd_len : CallD X E (rLenA X.K) gLen := by
  intro xs ds B H Q ex ra q
  unfold gLen at q
  split at q
  · cases ra with
    | cons r t =>
      cases t
      cases r with
      | lst h r => exact .inl ⟨_, _, rfl, .inl (.of (ex _ _ h)), by rw [r.length]; exact q.val ex (.int _)⟩
  · cases ra with
    | cons r t =>
      cases t
      cases r with
      | tup h r => exact .inl ⟨_, _, rfl, .inr (ex_u ex h), by rw [r.length]; exact q.val ex (.int _)⟩
  · split at q
    · rename_i hb
      cases ra with
      | cons r t =>
        cases t
        cases r
        exact .inr ⟨_, rfl, big_ok hb, q.val ex (.int _)⟩
    · exact q.elim
  · cases ra with
    | cons r t =>
      cases t
      obtain ⟨a, ns, rfl, h, rfl⟩ := scr_inv r
      refine .inl ⟨_, _, rfl, .inl (Same.seq ex h), ?_⟩
      rw [List.length_map] at q ⊢
      exact q.val ex (.int _)
  · exact q.elim
/-! ### tuple(..), list(..), all, any, min, max -/
def gTuple (ds : List PyData) : M Sl := match ds with
  | [.list l] => .ok (.dat (.tuple l))
  | [.tuple l] => .ok (.dat (.tuple l))
  | _ => .stuck
theorem cd_tuple : CallD X E (fun xs H Q => ∃ p ys, xs = [.ref p] ∧ ((SqL X.K H p ys ∧ ∀ l, H l = none → Q (.ref l) (upd H l (.tup ys))) ∨ (SqT X.K H p ys ∧ Q (.ref p) H))) gTuple := by
  intro xs ds B H Q ex ra q
  unfold gTuple at q
  split at q
  · cases ra with
    | cons r t =>
      cases t
      cases r with
      | lst h r => exact ⟨_, _, rfl, .inl ⟨.of (ex _ _ h), fun p hp => q.new ex hp (.tup upd_same (r.mono (.new (ex.back hp))))⟩⟩
  · cases ra with
    | cons r t =>
      cases t
      cases r with
      | tup h r => exact ⟨_, _, rfl, .inr ⟨ex_u ex h, q.val ex (.tup h r)⟩⟩
  · exact q.elim
def gList (ds : List PyData) : M Sl := match ds with
  | [.list l] => .ok (.own (.list l))
  | [.tuple l] => .ok (.own (.list l))
  | _ => .stuck
theorem cd_list : CallD X E (fun xs H Q => ∃ p ys, xs = [.ref p] ∧ (SqL X.K H p ys ∨ SqT X.K H p ys) ∧ ∀ l, H l = none → Q (.ref l) (upd H l (.lst ys))) gList := by
  intro xs ds B H Q ex ra q
  unfold gList at q
  split at q
  · cases ra with
    | cons r t =>
      cases t
      cases r with
      | lst h r => exact ⟨_, _, rfl, .inl (.of (ex _ _ h)), fun p hp => q.own ex hp (.lst r)⟩
  · cases ra with
    | cons r t =>
      cases t
      cases r with
      | tup h r => exact ⟨_, _, rfl, .inr (ex_u ex h), fun p hp => q.own ex hp (.lst r)⟩
  · exact q.elim
def boolsOf : List PyData → Option (List Bool)
  | [] => some []
  | .bool b :: ds => (boolsOf ds).map (b :: ·)
  | _ :: _ => none
theorem boolsOf_map : ∀ {ds : List PyData} {bs : List Bool}, boolsOf ds = some bs → ds = bs.map PyData.bool
  | [], bs, h => by cases h; rfl
  | d :: ds, bs, h => by
    cases d <;> simp only [boolsOf] at h <;> try cases h
    cases q : boolsOf ds with
    | none => rw [q] at h; cases h
    | some l =>
      rw [q] at h
      cases h
      rw [boolsOf_map q]
      rfl
def gAllAny (k : List Bool → Bool) (ds : List PyData) : M Sl := match ds with
  | [.list l] => (match boolsOf l with
    | some bs => retB (k bs)
    | none => .stuck)
  | _ => .stuck
theorem cd_all : CallD X E (rAll X.K) (gAllAny fun bs => bs.all id) := by
  intro xs ds B H Q ex ra q
  unfold gAllAny at q
  split at q
  · split at q
    · rename_i bs hb
      cases ra with
      | cons r t =>
        cases t
        cases r with
        | lst h r =>
          rw [boolsOf_map hb] at r
          exact ⟨_, bs, rfl, by rw [← r.bools]; exact .of (ex _ _ h), q.val ex (.bl _)⟩
    · exact q.elim
  · exact q.elim
theorem cd_any : CallD X E (rAny X.K) (gAllAny fun bs => bs.any id) := by
  intro xs ds B H Q ex ra q
  unfold gAllAny at q
  split at q
  · split at q
    · rename_i bs hb
      cases ra with
      | cons r t =>
        cases t
        cases r with
        | lst h r =>
          rw [boolsOf_map hb] at r
          exact ⟨_, bs, rfl, by rw [← r.bools]; exact .of (ex _ _ h), q.val ex (.bl _)⟩
    · exact q.elim
  · exact q.elim
def gMin2 (ds : List PyData) : M Sl := match ds with
  | [.int i, .int j] => retI (if j < i then j else i)
  | _ => .stuck
def gMax2 (ds : List PyData) : M Sl := match ds with
  | [.int i, .int j] => retI (if j > i then j else i)
  | _ => .stuck
theorem cd_min2 : CallD X E (fun xs H Q => ∃ i j, xs = [.int i, .int j] ∧ Q (.int (if j < i then j else i)) H) gMin2 := by
  intro xs ds B H Q ex ra q
  unfold gMin2 at q
  split at q
  · cases ra with
    | cons r t =>
      cases t with
      | cons r2 t =>
        cases t
        cases r
        cases r2
        exact ⟨_, _, rfl, q.val ex (.int _)⟩
  · exact q.elim
theorem cd_max2 : CallD X E (fun xs H Q => ∃ i j, xs = [.int i, .int j] ∧ Q (.int (if j > i then j else i)) H) gMax2 := by
  intro xs ds B H Q ex ra q
  unfold gMax2 at q
  split at q
  · cases ra with
    | cons r t =>
      cases t with
      | cons r2 t =>
        cases t
        cases r
        cases r2
        exact ⟨_, _, rfl, q.val ex (.int _)⟩
  · exact q.elim
/-! ### list(range(n)) -/
def eLstRg1 (fa : Env → M Sl) : Env → M Sl := fun ρ => (fa ρ).bind fun x => (isI x.d).bind fun n => if 0 ≤ n ∧ n ≤ 10000 then .ok (.own (.list (rng 0 n.toNat))) else .stuck
theorem rgV_ra {K : PySem.W.Frag} {B : Hp} (n : Int) : RA K B (rgV 0 n) (rng 0 n.toNat) := by
  unfold rgV rng
  rw [Int.sub_zero]
  have : ∀ l : List Nat, RA K B (l.map fun i : Nat => V.int (0 + (i : Int))) (l.map fun (i : Nat) => PyData.int (0 + (i : Int))) := by
    intro l
    induction l with
    | nil => exact .nil
    | cons x l ih => exact .cons (.int _) ih
  exact this _
theorem de_listRg1 {p p2 pos2 : Pos} (hc : X.calm = true) (hg : Gl X "list") (hm : X.mg "list" = none) (hg2 : Gl X "range") (hm2 : X.mg "range" = none) (h : DE X E a fa) (na : starEach [Expr.Call (.Name "range" p2) [a] [] pos2] X.env = (false, eval (Expr.Call (.Name "range" p2) [a] [] pos2) X.env) :: starEach [] X.env := by rfl)
    (na2 : starEach [a] X.env = (false, eval a X.env) :: starEach [] X.env := by rfl) : DE X E (.Call (.Name "list" p) [.Call (.Name "range" p2) [a] [] pos2] [] pos) (eLstRg1 fa) := by
  obtain ⟨t, pt, h⟩ := h
  refine ⟨_, pe_listRg hc hg hm (prg_1 hg2 hm2 pt na2) na, fun B0 H0 B H σ ρ Q re q => ?_⟩
  refine run_e h re ?_
  rcases q.bind with ⟨x, e1, q⟩ | ⟨x, e1, q⟩
  · refine .inl ⟨x, e1, fun v B1 H1 g1 r1 => ?_⟩
    have q := EPost.grow g1 q
    rcases q.bind with ⟨n, e2, q⟩ | ⟨n, e2, _⟩
    · cases z : x.d <;> rw [z] at e2 r1 <;> try cases e2
      cases r1
      split at q
      · rename_i hn
        exact ⟨_, rfl, RgOk.of_le (by omega) (by omega) (by omega) (by omega), fun p hp => q.own g1.s hp (.lst (rgV_ra _))⟩
      · exact q.elim
    · cases z : x.d <;> rw [z] at e2 <;> cases e2
  · exact .inr ⟨x, e1, q⟩
/-! ### in -/
def flatD (d : PyData) : Bool := match d with
  | .none => true
  | .bool _ => true
  | .int _ => true
  | .str _ => true
  | _ => false
def gInB (d e : PyData) : M Bool := match e with
  | .list ds => if flatD d = true ∧ ds.all flatD = true then .ok (ds.any fun z => PyData.eqv z d) else if SeqAt.shaped d = true ∧ SeqAt.shaped (.list ds) = true then .ok (ds.any fun z => PyData.eqv z d) else .stuck
  | .tuple ds => if flatD d = true ∧ ds.all flatD = true then .ok (ds.any fun z => PyData.eqv z d) else .stuck
  | .str z => (match d with
    | .str ⟨⟨[c]⟩⟩ => .ok (decide (c ∈ z.cps.toList))
    | _ => .stuck)
  | _ => .stuck
def gIn (d e : PyData) : M Sl := (gInB d e).bind fun b => retB b
def gNotIn (d e : PyData) : M Sl := (gInB d e).bind fun b => retB (!b)
theorem flat_V {K : PySem.W.Frag} {B : Hp} {x : V} {d : PyData} (r : R K B x d) (h : flatD d = true) : flatV x = true := by cases r <;> first | rfl | cases h
theorem eqV_D {K : PySem.W.Frag} {B : Hp} {x y : V} {d e : PyData} (r : R K B x d) (q : R K B y e) (h : flatD d = true) (h2 : flatD e = true) : eqV x y = PyData.eqv d e := by
  cases r <;> first
    | cases h; done
    | (cases q <;> first
      | cases h2; done
      | rfl)
theorem flat_all {K : PySem.W.Frag} {B : Hp} : ∀ {xs : List V} {ds : List PyData}, RA K B xs ds → ds.all flatD = true → xs.all flatV = true
  | _, _, .nil, _ => rfl
  | _, _, .cons r t, h => by
    rw [List.all_cons, Bool.and_eq_true] at h ⊢
    exact ⟨flat_V r h.1, flat_all t h.2⟩
theorem inV_D {K : PySem.W.Frag} {B : Hp} {x : V} {d : PyData} (r : R K B x d) (h : flatD d = true) : ∀ {xs : List V} {ds : List PyData}, RA K B xs ds → ds.all flatD = true → inV x xs = ds.any fun z => PyData.eqv z d
  | _, _, .nil, _ => rfl
  | _, _, .cons rz t, h2 => by
    rw [List.all_cons, Bool.and_eq_true] at h2
    have e1 := eqV_D rz r h2.1 h
    have e2 := inV_D r h t h2.2
    unfold inV at e2 ⊢
    rw [List.any_cons, List.any_cons, e2]
    exact congrArg (fun b => b || _) e1
def rInA (K : PySem.W.Frag) (neg : Bool) : R2 := fun x y H Q => rIn K neg x y H Q ∨ (∃ d ds, Dp K H x d ∧ Dp K H y (.list ds) ∧ SeqAt.shaped d = true ∧ SeqAt.shaped (.list ds) = true ∧ Q (.bl (if neg then !(ds.any fun z => PyData.eqv z d) else ds.any fun z => PyData.eqv z d)) H) ∨
  ∃ (c : Nat) (z : Str), x = .str ⟨#[c]⟩ ∧ y = .str z ∧ Q (.bl (if neg then !decide (c ∈ z.cps.toList) else decide (c ∈ z.cps.toList))) H
theorem op_inA (hu : X.A.units + 65 < cLine) : OpR X (compareOp .In) (rInA X.K false) := op_in_seq.or ((op_inD hu).or op_in_sign)
theorem op_notInA (hu : X.A.units + 65 < cLine) : OpR X (compareOp .NotIn) (rInA X.K true) := op_notIn_seq.or ((op_notInD hu).or op_notIn_sign)
theorem in_cases {neg : Bool} {x y : V} {d e : PyData} {B H : Hp} {Q : VK} {b : Bool} (ex : Ex B H) (rx : R X.K B x d) (ry : R X.K B y e) (h : gInB d e = .ok b) (q : Q (.bl (if neg then !b else b)) H) : rInA X.K neg x y H Q := by
  unfold gInB at h
  split at h
  · split at h
    · rename_i hf
      cases h
      cases ry with
      | lst h r => exact .inl ⟨_, _, rfl, .inl (.of (ex _ _ h)), flat_V rx hf.1, flat_all r hf.2, by rw [inV_D rx hf.1 r hf.2]; exact q⟩
    · split at h
      · rename_i hs
        cases h
        exact .inr (.inl ⟨_, _, (rx.mono ex).dp (SeqAt.canLay_of_shaped hs.1), (ry.mono ex).dp (SeqAt.canLay_of_shaped hs.2), hs.1, hs.2, q⟩)
      · cases h
  · split at h
    · rename_i hf
      cases h
      cases ry with
      | tup h r => exact .inl ⟨_, _, rfl, .inr (ex_u ex h), flat_V rx hf.1, flat_all r hf.2, by rw [inV_D rx hf.1 r hf.2]; exact q⟩
    · cases h
  · split at h
    · cases h
      cases rx
      cases ry
      exact .inr (.inr ⟨_, _, rfl, rfl, q⟩)
    · cases h
  · cases h
theorem gInB_ne {d e : PyData} {x : Str} : gInB d e ≠ .exc x := by
  unfold gInB
  split
  · split
    · intro h; cases h
    · split <;> (intro h; cases h)
  · split <;> (intro h; cases h)
  · split <;> (intro h; cases h)
  · intro h; cases h
theorem od_in : OpD X E (rInA X.K false) gIn := by
  intro x y d e B H Q ex rx ry q
  unfold gIn at q
  cases hb : gInB d e with
  | stuck => rw [hb] at q; exact q.elim
  | exc x => exact (gInB_ne hb).elim
  | ok b =>
    rw [hb] at q
    exact in_cases ex rx ry hb (q.val ex (.bl _))
theorem od_notIn : OpD X E (rInA X.K true) gNotIn := by
  intro x y d e B H Q ex rx ry q
  unfold gNotIn at q
  cases hb : gInB d e with
  | stuck => rw [hb] at q; exact q.elim
  | exc x => exact (gInB_ne hb).elim
  | ok b =>
    rw [hb] at q
    exact in_cases ex rx ry hb (q.val ex (.bl _))
/-! ### isinstance(e, T), T a built-in class -/
def tyName (d : PyData) : String := match d with
  | .none => "NoneType"
  | .bool _ => "bool"
  | .int _ => "int"
  | .str _ => "str"
  | .list _ => "list"
  | .tuple _ => "tuple"
  | .dict _ => "dict"
def gIsi (T : String) (d : PyData) : M Sl := match d with
  | .dict ((.none, _) :: _) => .stuck
  | .dict ((.bool false, _) :: _) => .stuck
  | d => (match kitB (tyName d) T with
    | some b => retB b
    | none => .stuck)
theorem ty_of {K : PySem.W.Frag} {B : Hp} {x : V} {d : PyData} (r : R K B x d) (h : ∀ z l, d ≠ .dict ((.none, z) :: l)) (h2 : ∀ z l, d ≠ .dict ((.bool false, z) :: l)) : TyX K B x (.type (tyName d)) := by
  cases r with
  | non => exact .base .non
  | bl b => exact .base (.bl b)
  | int i => exact .base (.int i)
  | str z => exact .base (.str z)
  | lst hh _ => exact .base (.lst hh)
  | tup hh _ =>
    exact .base (.tup hh)
  | tupF _ _ => exact (h2 _ _ rfl).elim
  | dK hh _ => exact .base (.dK hh)
  | dT hh _ => exact .base (.dT hh)
  | ins _ _ => exact (h _ _ rfl).elim
  | scr _ => exact (h _ _ rfl).elim
  | lk _ _ => exact (h2 _ _ rfl).elim
  | lkK _ _ => exact (h2 _ _ rfl).elim
def eIsi (T : String) (fa : Env → M Sl) : Env → M Sl := fun ρ => (fa ρ).bind fun x => gIsi T x.d
theorem de_isi {p p2 : Pos} {n : Str} {T : String} (hg : Gl X "isinstance") (hm : X.mg "isinstance" = none) (hgT : Gl X n) (hmT : X.mg n = none) (hv : bootBuiltins n = some (.type T)) (h : DE X E a fa) (hn : n ≠ "__name__" := by decide) (hd : (n == ("__debug__" : Str)) = false := by decide)
    (he : starEach [a, .Name n p2] X.env = (false, eval a X.env) :: starEach [Expr.Name n p2] X.env := by rfl) (he2 : starEach [Expr.Name n p2] X.env = (false, eval (Expr.Name n p2) X.env) :: starEach [] X.env := by rfl) (hpl : (backTo pos (starEach [Expr.Name n p2] X.env)).any (·.1) = false := by rfl) :
    DE X E (.Call (.Name "isinstance" p) [a, .Name n p2] [] pos) (eIsi T fa) := by
  obtain ⟨t, pt, h⟩ := h
  refine ⟨_, pe_callB call_isi hg hm (by decide +kernel) (pa_cons pt (pa_cons (pe_bltn (v := .ty T) hgT hmT hv rfl hn hd) pa_nil he2) he) (by decide) (by decide) he hpl, fun B0 H0 B H σ ρ Q re q => ?_⟩
  refine run_e h re ?_
  rcases q.bind with ⟨x, e1, q⟩ | ⟨x, e1, q⟩
  · refine .inl ⟨x, e1, fun v B1 H1 g1 r1 => ?_⟩
    have q := EPost.grow g1 q
    unfold gIsi at q
    split at q
    · exact q.elim
    · exact q.elim
    · rename_i d hne hne2
      split at q
      · rename_i b hk
        exact ⟨v, .ty T, .type (tyName x.d), .type T, b, rfl, .ty T, ty_of (r1.mono g1.s) (fun z l hz => hne z l hz) (fun z l hz => hne2 z l hz), kit_ty hk, q.val g1.s (.bl b)⟩
      · exact q.elim
  · exact .inr ⟨x, e1, q⟩
/-! ### a < b < c -/
def eChain (g g' : PyData → PyData → M Sl) (fa fb fc : Env → M Sl) : Env → M Sl := fun ρ => (fa ρ).bind fun x => (fb ρ).bind fun y => ((g x.d y.d).bind fun z => isB z.d).bind fun k => if k = true then (fc ρ).bind fun w => g' y.d w.d else .ok (.dat (.bool false))
end
end Dl
/-! The data layer: x[i] = e, methods whose arguments change the same list, the law's def. -/
namespace Dl
open PySem PySem.Spec PyProof.Rows L2
section
variable {X : Cx} {E : XK} {a b c e : Expr} {es : List Expr} {fa fb fc : Env → M Sl} {pos : Pos}
/-! ### x[i] = e -/
def setI (l : List PyData) (i d : PyData) : Option (List PyData) := match i with
  | .int k => (match ixN l.length k with
    | some j => some (l.set j d)
    | none => none)
  | _ => none
def oSetIx (i : Nat) (fe fi : Env → M Sl) : Env → O := fun ρ => oOf (fe ρ) fun x => match ρ[i]? with
  | some (some (.own (.list l))) => oOf (fi ρ) fun y => (match setI l y.d x.d with
    | some l' => .nx (ρ.set i (some (.own (.list l'))))
    | none => .stuck)
  | _ => .stuck
theorem ds_setIx {i : Nat} {tpos : Pos} (h : DE X E e fa) (ho : PE X a (tVar i)) (hi : DE X E b fb) (hs : swapsWithSole [Expr.Subscript a b tpos] e pos.line X.env = pure false := by rfl) (hw : swappedStores [Expr.Subscript a b tpos] e X.env = pure none := by rfl)
    (h1 : (assignEach [Expr.Subscript a b tpos] X.env).map (·.2) = [assign (Expr.Subscript a b tpos) X.env] := by rfl)
    (hg : ∀ v, assign (.Subscript a b tpos) X.env v = (do
      let ov ← holding [v] (eval a X.env)
      let iv ← holding [v, ov] (eval b X.env)
      standAt tpos
      holding [v, ov, iv] (setItem ov iv v)
      release [v, ov, iv] []) := by intro _; rfl) : DS X E (.Assign [.Subscript a b tpos] e pos) (oSetIx i fa fb) := by
  obtain ⟨t, p, h⟩ := h
  obtain ⟨ti, pi, hi⟩ := hi
  refine ⟨_, ps_asg p (pg_sub ho pi set_list hg) hs hw h1, fun B0 H0 B H σ ρ D re q => ?_⟩
  refine h B0 H0 B H σ ρ _ re (epost_of re q fun sl _ q v B1 H1 g1 r => ?_)
  obtain ⟨B2, g2, r2⟩ := r.fix g1
  split at q
  · rename_i l hl
    obtain ⟨p1, o, k1, k2, k3, k4, k5⟩ := re.own i _ hl
    cases k5 with
    | lst rl =>
      rename_i vs
      refine ⟨_, k1, ?_⟩
      refine hi B0 H0 B2 H1 σ ρ _ (re.grow g2) (epost_of (re.grow g2) (SPost.grow g2.b q) fun sl2 _ q v2 B3 H3 g3 r3 => ?_)
      obtain ⟨B4, g4, r4⟩ := r3.fix g3
      unfold setI at q
      split at q
      · rename_i l' hset
        split at hset
        · rename_i k hk
          split at hset
          · rename_i j hj
            cases hset
            rw [hk] at r4
            cases r4
            have g24 := g2.trans g4
            refine ⟨p1, vs, k, j, rfl, rfl, g24.h p1 _ k4, by rw [rl.length]; exact hj, ?_⟩
            have nb : B4 p1 = none := g24.lm k4 k3 (fun _ h => nomatch h)
            exact q B4 _ σ g4.b ((re.grow g24).own_put hl k1 (g24.h p1 _ k4) nb k2 (.lst ((rl.mono g24.b).set j (r2.mono g4.b))))
          · cases hset
        · cases hset
      · exact q.elim
  · exact q.elim
/-! ### a method whose arguments may change the same list -/
def mMutM (i : Nat) (g : List PyData → List PyData → Option (List PyData × PyData)) (f : Env → M (List PyData × Env)) : Env → M (PyData × Env) := fun ρ => match ρ[i]? with
  | some (some (.own (.list _))) => (f ρ).bind fun x => (match x.2[i]? with
    | some (some (.own (.list l))) => (match g l x.1 with
      | some (l', d) => .ok (d, x.2.set i (some (.own (.list l'))))
      | none => .stuck)
    | _ => .stuck)
  | _ => .stuck
theorem dm_mutM {i : Nat} {name : Str} {r : V → List V → Hp → VK → Prop} {g : List PyData → List PyData → Option (List PyData × PyData)} {o : Expr} {fs : Env → M (List PyData × Env)} {apos cpos : Pos} (hg : MutU X r g) (ha : DAM X E (e :: es) fs)
    (hpe : ∀ t, PA X (e :: es) t → PE X (.Call (.Attribute o name apos) (e :: es) [] cpos) (tBM X.K "list" r (tVar i) t)) : DM X E (.Call (.Attribute o name apos) (e :: es) [] cpos) (mMutM i g fs) := by
  obtain ⟨t, p, h⟩ := ha
  refine ⟨_, hpe t p, fun B0 H0 B H σ ρ Q re q => ?_⟩
  unfold mMutM at q
  split at q
  · rename_i l0 hi
    obtain ⟨p1, o1, h1, h2, h3, h4, h5⟩ := re.own i _ hi
    cases h5 with
    | lst rl =>
      rename_i vs
      refine ⟨_, h1, .inl ⟨rfl, vs, SqL.of h4⟩, h B0 H0 B H σ ρ _ re ?_⟩
      cases z : fs ρ with
      | stuck => rw [z] at q; exact q.elim
      | exc x => rw [z] at q; exact q
      | ok y =>
        obtain ⟨ds, ρ1⟩ := y
        rw [z, bind_ok] at q
        intro xs B1 H1 e1 r1 ra
        simp only at q
        split at q
        · rename_i l hl
          split at q
          · rename_i l' d hgd
            obtain ⟨p2, o2, k1, k2, k3, k4, k5⟩ := r1.own i _ hl
            rw [h1] at k1
            cases k1
            cases k5 with
            | lst rl2 =>
              rename_i vs2
              refine hg p1 vs2 l xs ds l' d B1 H1 Q k4 r1.gr.s rl2 ra hgd fun vs' y rv ry => ?_
              exact q y B1 _ e1 (r1.own_put hl h1 k4 k3 k2 (.lst rv)) ry
          · exact q.elim
        · exact q.elim
  · exact q.elim
theorem dam_one {m : Env → M (PyData × Env)} (h : DM X E e m) (hs : starEach [e] X.env = (false, eval e X.env) :: starEach [] X.env := by rfl) : DAM X E [e] (amCons m aNil) := dam_cons h da_nil hs
theorem amCons_len {m : Env → M (PyData × Env)} {g : Env → M (List PyData)} {n : Nat} (h : ∀ ρ ds, g ρ = .ok ds → ds.length = n) : ∀ ρ ds ρ', amCons m g ρ = .ok (ds, ρ') → ds.length = n + 1 := by
  intro ρ ds ρ' e
  unfold amCons at e
  cases q : m ρ with
  | stuck => rw [q] at e; cases e
  | exc x => rw [q] at e; cases e
  | ok a =>
    rw [q, bind_ok] at e
    cases q2 : g a.2 with
    | stuck => rw [q2] at e; cases e
    | exc x => rw [q2] at e; cases e
    | ok l =>
      rw [q2, bind_ok] at e
      cases e
      rw [List.length_cons, h a.2 l q2]
end
/-! ### the law's own def: nothing leaves it -/
theorem law_mk {P : Program} {w : World} {K : PySem.W.Frag} {mg : Str → Option Value} {base : Heap} {x qual : Str} {st : Stmt} {N ps : List Str} {k : Nat} {o : Env → O} {f : Addr} {fd : FuncData} (F : FunD K x qual (defArgs st) (defBody st) (defScope st) [] [] f fd) (S : FnScope N ps (defScope st))
    (h : ∀ (cdv : Value) (A : Around) (outer : List PySem.Env) (s : Shared) (H : Hp) (E : XK), Room k (A.deeper (envOfC qual (defScope st) s.heap.objs.size f cdv)) →
      DSs (cxOf CX0 P w K mg base N qual (defScope st) f cdv A outer s H E).nox E0 (defBody st) o) : FnOk P w K mg base CX0 (k + 1) f fd ps (fun vs H Q _ => spD K ps.length (fnO ps.length N.length o) vs H Q E0) := by
  refine F.ok S (fun vs H Q E h => h.1) fun cdv A outer s H vs Q E hr hs => ?_
  obtain ⟨t, p, q⟩ := body_ok (h cdv A outer s H E hr) hs
  exact ⟨t, p.nox, q⟩
end Dl
/-! The data layer: constants of the module, dicts with tuples for keys. -/
namespace Dl
open PySem PySem.Spec PyProof.Rows L2
section
variable {X : Cx} {E : XK} {a b c e : Expr} {es : List Expr} {fa fb fc : Env → M Sl} {pos : Pos}
/-! ### tuples of the module's top -/
abbrev fz (ds : List PyData) : PyData := .dict [(.bool false, .tuple ds)]
theorem fz_inv {K : PySem.W.Frag} {H : Hp} {v : V} {ds : List PyData} (r : R K H v (fz ds)) : ∃ a xs, v = .ref a ∧ (∀ G : Hp, SqT K G a xs) ∧ RA K H xs ds := by
  generalize hd : fz ds = d at r
  cases r with
  | tupF h r =>
    injection hd with hd
    injection hd with hd _
    injection hd with _ hd
    injection hd with hd
    subst hd
    exact ⟨_, _, rfl, h, r⟩
  | dK h r =>
    rename_i kvs vs
    injection hd with hd
    cases kvs with
    | nil => cases hd
    | cons kv kvs =>
      cases vs with
      | nil => cases hd
      | cons v vs =>
        injection hd with hd _
        injection hd with hd _
        obtain ⟨k, _⟩ := kv
        cases k <;> cases hd
  | dT h r =>
    injection hd with hd
    injection hd with hd _
    injection hd with hd _
    cases hd
  | ins h r =>
    injection hd with hd
    injection hd with hd _
    injection hd with hd _
    cases hd
  | scr h =>
    injection hd with hd
    injection hd with hd _
    injection hd with hd _
    cases hd
  | _ => cases hd
/-- the value u of the top is the data d -/
def frAll (f : Value → PyData → Bool) : List Value → List PyData → Bool
  | [], [] => true
  | u :: us, d :: ds => f u d && frAll f us ds
  | _, _ => false
def frFlat (u : Value) (d : PyData) : Bool := match u, d with
  | .int j _, .int i => decide (j = i)
  | .str y _, .str x => decide (y = x)
  | _, _ => false
def frTup (K : PySem.W.Frag) (f : Value → PyData → Bool) (a : Addr) (ds : List PyData) : Bool := match K.lookup a with
  | some ⟨.type c, _, .seq its _, _⟩ => decide (c = "tuple") && (decide (its.size ≤ sizeLine) && frAll f its.toList ds)
  | _ => false
def frStep (K : PySem.W.Frag) (f : Value → PyData → Bool) (u : Value) (d : PyData) : Bool := match u, d with
  | .ref a, .dict [(.bool false, .tuple ds)] => frTup K f a ds
  | u, d => frFlat u d
def frB (K : PySem.W.Frag) : Nat → Value → PyData → Bool
  | 0 => frFlat
  | n + 1 => frStep K (frB K n)
theorem frAll_ok {K : PySem.W.Frag} {f : Value → PyData → Bool} (hf : ∀ u d, f u d = true → ∃ v, RelV v u ∧ ∀ H, R K H v d) : ∀ (us : List Value) (ds : List PyData), frAll f us ds = true → ∃ vs, Vals vs us ∧ ∀ H, RA K H vs ds
  | [], [], _ => ⟨[], .nil, fun _ => .nil⟩
  | [], _ :: _, h => nomatch h
  | _ :: _, [], h => nomatch h
  | u :: us, d :: ds, h => by
    obtain ⟨h1, h2⟩ := Bool.and_eq_true_iff.mp (show (f u d && frAll f us ds) = true from h)
    obtain ⟨v, r, q⟩ := hf u d h1
    obtain ⟨vs, rs, qs⟩ := frAll_ok hf us ds h2
    exact ⟨v :: vs, .cons r rs, fun H => .cons (q H) (qs H)⟩
theorem frFlat_ok {K : PySem.W.Frag} {u : Value} {d : PyData} (h : frFlat u d = true) : ∃ v, RelV v u ∧ ∀ H, R K H v d := by
  unfold frFlat at h
  split at h
  · cases of_decide_eq_true h
    exact ⟨.int _, ⟨_, rfl⟩, fun H => .int _⟩
  · cases of_decide_eq_true h
    exact ⟨.str _, ⟨_, rfl⟩, fun H => .str _⟩
  · cases h
theorem frTup_ok {K : PySem.W.Frag} {f : Value → PyData → Bool} (hf : ∀ u d, f u d = true → ∃ v, RelV v u ∧ ∀ H, R K H v d) {a : Addr} {ds : List PyData} (h : frTup K f a ds = true) : ∀ H, R K H (.ref a) (fz ds) := by
  unfold frTup at h
  split at h
  · rename_i c dd its n1 sl hk
    obtain ⟨h1, h2⟩ := Bool.and_eq_true_iff.mp h
    obtain ⟨h3, h4⟩ := Bool.and_eq_true_iff.mp h2
    obtain ⟨vs, rs, qs⟩ := frAll_ok hf _ _ h4
    exact fun H => .tupF (fun G => .inr ⟨_, _, _, hk, congrArg Value.type (of_decide_eq_true h1), rfl, of_decide_eq_true h3, rs⟩) (qs H)
  · cases h
theorem frB_ok {K : PySem.W.Frag} : ∀ (n : Nat) (u : Value) (d : PyData), frB K n u d = true → ∃ v, RelV v u ∧ ∀ H, R K H v d
  | 0, u, d, h => frFlat_ok h
  | n + 1, u, d, h => by
    have h : frStep K (frB K n) u d = true := h
    unfold frStep at h
    split at h
    · exact ⟨.ref _, rfl, frTup_ok (frB_ok n) h⟩
    · exact frFlat_ok h
/-- the module's name x is the data d -/
def conB (K : PySem.W.Frag) (x : Str) (d : PyData) : Bool := match PySem.W.nsIn K mainGlobals x with
  | some (some u) => frB K 6 u d
  | _ => false
def IsCon (K : PySem.W.Frag) (mg : Str → Option Value) (x : Str) (d : PyData) : Prop := ∃ u v, mg x = some u ∧ RelV v u ∧ ∀ H, R K H v d
theorem con_ok {K : PySem.W.Frag} {h : Heap} {mg : Str → Option Value} (k : K.In h) (G : h.Ns mainGlobals mg) {x : Str} {d : PyData} (c : conB K x d = true) : IsCon K mg x d := by
  unfold conB at c
  split at c
  · rename_i u hu
    obtain ⟨v, r, q⟩ := frB_ok 6 u d c
    exact ⟨u, v, PySem.W.mg_of k G hu, r, q⟩
  · cases c
/-- a loop over a tuple of the module's top -/
theorem di_con {x : Str} {ds : List PyData} {tg : Expr} (hg : Gl X x) (hm : IsCon X.K X.mg x (fz ds)) (hd : (x == ("__debug__" : Str)) = false := by decide) : DI X E tg (.Name x pos) (fun _ => .ok ds) := by
  obtain ⟨u, v, h1, r, q⟩ := hm
  refine ⟨_, pi_any (pe_glob hg h1 r hd), fun B0 H0 B H σ ρ Q re k => ?_⟩
  obtain ⟨a, xs, rfl, h2, ra⟩ := fz_inv (q B)
  exact .inl ⟨_, rfl, .inr ⟨_, h2 _, k _ B H (.refl re.gr.s) (wlk_at walk_tup ra fun B2 H2 _ _ => h2 _)⟩⟩
/-! ### dicts with tuples for keys -/
def keyV (d : PyData) : Option Key := match d with
  | .int i => some (.inl i)
  | .str x => some (.inr x)
  | _ => none
def keysA : List PyData → Option (List Key)
  | [] => some []
  | d :: ds => (keyV d).bind fun k => (keysA ds).bind fun ks => some (k :: ks)
def keysOf (d : PyData) : Option (List Key) := match d with
  | .tuple ds => keysA ds
  | _ => none
def keysOfF (d : PyData) : Option (List Key) := match d with
  | .dict [(.bool false, .tuple ds)] => keysA ds
  | d => keysOf d
theorem keyV_ok {K : PySem.W.Frag} {H : Hp} {v : V} {d : PyData} {k : Key} (r : R K H v d) (h : keyV d = some k) : v = kV k := by
  unfold keyV at h
  split at h
  · cases h
    cases r
    rfl
  · cases h
    cases r
    rfl
  · cases h
theorem keysA_ok {K : PySem.W.Frag} {H : Hp} : ∀ {vs : List V} {ds : List PyData} {ks : List Key}, RA K H vs ds → keysA ds = some ks → vs = ks.map kV
  | _, _, _, .nil, h => by cases h; rfl
  | _, _, _, .cons r q, h => by
    unfold keysA at h
    obtain ⟨k, h1, h⟩ := Option.bind_eq_some_iff.mp h
    obtain ⟨ks, h2, h⟩ := Option.bind_eq_some_iff.mp h
    cases h
    rw [keyV_ok r h1, keysA_ok q h2]
    rfl
theorem keysA_keyD : ∀ ks : List Key, keysA (ks.map keyD) = some ks
  | [] => rfl
  | k :: ks => by
    have e : keyV (keyD k) = some k := by cases k <;> rfl
    simp only [List.map_cons, keysA, e, keysA_keyD ks, Option.bind_some]
theorem keysOf_ok {K : PySem.W.Frag} {H : Hp} {v : V} {d : PyData} {ks : List Key} (r : R K H v d) (h : keysOf d = some ks) : ∃ a, v = .ref a ∧ H a = some (.tup (ks.map kV)) := by
  unfold keysOf at h
  split at h
  · cases r with
    | tup h1 ra => exact ⟨_, rfl, by rw [← keysA_ok ra h]; exact h1⟩
  · cases h
theorem keysOfF_ok {K : PySem.W.Frag} {H : Hp} {v : V} {d : PyData} {ks : List Key} (r : R K H v d) (h : keysOfF d = some ks) : ∃ a, v = .ref a ∧ SqT K H a (ks.map kV) := by
  unfold keysOfF at h
  split at h
  · obtain ⟨a, xs, h1, h2, ra⟩ := fz_inv r
    exact ⟨a, h1, by rw [← keysA_ok ra h]; exact h2 _⟩
  · obtain ⟨a, h1, h2⟩ := keysOf_ok r h
    exact ⟨a, h1, .of h2⟩
/-- the pairs of such a dict -/
def isK (ks : List Key) (p : PyData × PyData) : Bool := decide (keysOf p.1 = some ks)
def getE (es : List (PyData × PyData)) (ks : List Key) : Option PyData := (es.find? (isK ks)).map (·.2)
def putE (es : List (PyData × PyData)) (ks : List Key) (d : PyData) : List (PyData × PyData) := if es.any (isK ks) = true then es.map (fun p => if isK ks p = true then (p.1, d) else p) else es ++ [(.tuple (ks.map keyD), d)]
def entsT (kvs : List (List Key × V)) (vs : List PyData) : List (PyData × PyData) := (kvs.map fun p => PyData.tuple (p.1.map keyD)).zip vs
theorem isK_ent (k : List Key) (ks : List Key) (d : PyData) : isK ks (.tuple (k.map keyD), d) = decide (k = ks) := by
  unfold isK keysOf
  simp only [keysA_keyD, Option.some.injEq]
theorem ent_get {K : PySem.W.Frag} {H : Hp} (ks : List Key) : ∀ (kvs : List (List Key × V)) (vs : List PyData), RA K H (kvs.map (·.2)) vs → (valV kvs ks = none ∧ getE (entsT kvs vs) ks = none) ∨ ∃ v d, valV kvs ks = some v ∧ getE (entsT kvs vs) ks = some d ∧ R K H v d
  | [], _, .nil => .inl ⟨rfl, rfl⟩
  | (k, v) :: kvs, d :: vs, .cons r q => by
    by_cases h : k = ks
    · refine .inr ⟨v, d, valV_pos h, ?_, r⟩
      unfold getE entsT
      rw [List.map_cons, List.zip_cons_cons, List.find?_cons_of_pos (by rw [isK_ent]; exact decide_eq_true h)]
      rfl
    · have e : getE (entsT ((k, v) :: kvs) (d :: vs)) ks = getE (entsT kvs vs) ks := by
        unfold getE entsT
        rw [List.map_cons, List.zip_cons_cons, List.find?_cons_of_neg (by rw [isK_ent]; simpa using h)]
      rw [valV_neg h, e]
      exact ent_get ks kvs vs q
theorem ent_any (ks : List Key) : ∀ (kvs : List (List Key × V)) (vs : List PyData), kvs.length = vs.length → (kvs.any fun kv => decide (kv.1 = ks)) = (entsT kvs vs).any (isK ks)
  | [], [], _ => rfl
  | (k, v) :: kvs, d :: vs, h => by
    unfold entsT
    rw [List.map_cons, List.zip_cons_cons, List.any_cons, List.any_cons, isK_ent, ent_any ks kvs vs (by simpa using h)]
    rfl
theorem RA.put {K : PySem.W.Frag} {H : Hp} {v : V} {d : PyData} (ks : List Key) (rv : R K H v d) : ∀ (kvs : List (List Key × V)) (vs : List PyData), RA K H (kvs.map (·.2)) vs →
    ∃ ws, RA K H ((kvs.map fun kv => if kv.1 = ks then (kv.1, v) else kv).map (·.2)) ws ∧ entsT (kvs.map fun kv => if kv.1 = ks then (kv.1, v) else kv) ws = (entsT kvs vs).map fun p => if isK ks p = true then (p.1, d) else p
  | [], _, .nil => ⟨[], .nil, rfl⟩
  | (k, w) :: kvs, e :: vs, .cons r q => by
    obtain ⟨ws, h1, h2⟩ := RA.put ks rv kvs vs q
    unfold entsT at h2 ⊢
    by_cases h : k = ks
    · refine ⟨d :: ws, ?_, ?_⟩
      · simp only [List.map_cons, h, if_true]
        exact .cons rv h1
      · simp only [List.map_cons, List.zip_cons_cons, isK_ent, h, decide_true, if_true, h2]
    · refine ⟨e :: ws, ?_, ?_⟩
      · simp only [List.map_cons, h, if_false]
        exact .cons r h1
      · simp only [List.map_cons, List.zip_cons_cons, isK_ent, h, decide_false, if_false, Bool.false_eq_true, h2]
theorem ent_put {K : PySem.W.Frag} {H : Hp} {v : V} {d : PyData} {ks : List Key} {kvs : List (List Key × V)} {vs : List PyData} (rv : R K H v d) (q : RA K H (kvs.map (·.2)) vs) : ∃ ws, RA K H ((putK kvs ks v).map (·.2)) ws ∧ entsT (putK kvs ks v) ws = putE (entsT kvs vs) ks d := by
  have hl : kvs.length = vs.length := by simpa using q.length
  unfold putK putE
  rw [ent_any ks kvs vs hl]
  by_cases h : (entsT kvs vs).any (isK ks) = true
  · rw [if_pos h, if_pos h]
    exact RA.put ks rv kvs vs q
  · rw [if_neg h, if_neg h]
    refine ⟨vs ++ [d], by rw [List.map_append]; exact q.append (.cons rv .nil), ?_⟩
    unfold entsT
    rw [List.map_append, List.zip_append (by simpa using hl)]
    rfl
/-! ### {} -/
abbrev dT0 : PyData := .dict [(.bool true, .none)]
def eNewT : Env → M Sl := fun _ => .ok (.own dT0)
theorem de_newT : DE X E (.Dict [] [] pos) eNewT := ⟨_, pe_dnewT, fun B0 H0 B H σ ρ Q re q => fun p hp => EPost.own re.gr.s hp (.dT (kvs := []) (vs := []) .nil) q⟩
/-! ### k in d, k not in d -/
theorem ent_inv {K : PySem.W.Frag} {H : Hp} {v : V} {es : List (PyData × PyData)} (r : R K H v (.dict ((.bool true, .none) :: es))) : ∃ a kvs vs, v = .ref a ∧ H a = some (.dT kvs) ∧ RA K H (kvs.map (·.2)) vs ∧ es = entsT kvs vs := by
  generalize hd : PyData.dict ((.bool true, .none) :: es) = d at r
  cases r with
  | dT h r =>
    injection hd with hd
    injection hd with _ hd
    exact ⟨_, _, _, rfl, h, r, hd⟩
  | dK h r =>
    rename_i kvs vs
    injection hd with hd
    cases kvs with
    | nil => cases hd
    | cons kv kvs =>
      cases vs with
      | nil => cases hd
      | cons v vs =>
        injection hd with hd _
        injection hd with hd _
        obtain ⟨k, _⟩ := kv
        cases k <;> cases hd
  | tupF h r =>
    injection hd with hd
    injection hd with hd _
    injection hd with hd _
    cases hd
  | ins h r =>
    injection hd with hd
    injection hd with hd _
    injection hd with hd _
    cases hd
  | scr h =>
    injection hd with hd
    injection hd with hd _
    injection hd with hd _
    cases hd
  | _ => cases hd
def rInT (K : PySem.W.Frag) (neg : Bool) : R2 := fun x y H Q => ∃ a b kvs ks, x = .ref b ∧ y = .ref a ∧ H a = some (.dT kvs) ∧ SqT K H b (ks.map kV) ∧ Q (.bl (if neg then !(valV kvs ks).isSome else (valV kvs ks).isSome)) H
theorem key_sq {pins : List (Addr × Obj)} {σ : L2.St} {H : Hp} {s : Shared} {b : Addr} {ks : List Key} (I : Inv X pins σ H s) (h : SqT X.K H b (ks.map kV)) : (tupleKind (mixKind X.prog X.w)).is s.heap ks b := by
  obtain ⟨its, r, ⟨o, h1, h2, n, h3⟩, _⟩ := I.tuple h
  exact ⟨o, its.toArray, n, h1, h2, h3, by simpa using items_are r⟩
theorem op_inT (hu : X.A.units + 1 < cLine) : OpR X (compareOp .In) (rInT X.K false) := by
  intro pins s σ H x y v u Q I rx ry h
  obtain ⟨a, b, kvs, ks, rfl, rfl, e, hb, q⟩ := h
  cases (show v = Value.ref b from rx)
  cases (show u = Value.ref a from ry)
  obtain ⟨z, hd, xs, rel, dd⟩ := dt_rd I.hok (.inl e)
  refine wpAny_in_heap (tupleKind_room_in1 hu) (key_sq I hb) hd dd ?_
  have k := (rel.val ks).isSome_eq
  rw [Option.isSome_map] at k
  rw [← k]
  exact ⟨.bl (valV kvs ks).isSome, H, I.tok _, rfl, q⟩
theorem op_notInT (hu : X.A.units + 1 < cLine) : OpR X (compareOp .NotIn) (rInT X.K true) := by
  intro pins s σ H x y v u Q I rx ry h
  obtain ⟨a, b, kvs, ks, rfl, rfl, e, hb, q⟩ := h
  cases (show v = Value.ref b from rx)
  cases (show u = Value.ref a from ry)
  obtain ⟨z, hd, xs, rel, dd⟩ := dt_rd I.hok (.inl e)
  refine wpAny_notIn_heap (tupleKind_room_in1 hu) (key_sq I hb) hd dd ?_
  have k := (rel.val ks).isSome_eq
  rw [Option.isSome_map] at k
  rw [← k]
  exact ⟨.bl (!(valV kvs ks).isSome), H, I.tok _, rfl, q⟩
def gInTB (d e : PyData) : M Bool := match e with
  | .dict ((.bool true, .none) :: es) => (match keysOfF d with
    | some ks => .ok (es.any (isK ks))
    | none => .stuck)
  | _ => .stuck
def gInT (d e : PyData) : M Sl := (gInTB d e).bind fun b => retB b
def gNotInT (d e : PyData) : M Sl := (gInTB d e).bind fun b => retB (!b)
theorem inT_cases {K : PySem.W.Frag} {neg : Bool} {x y : V} {d e : PyData} {B H : Hp} {Q : VK} {b : Bool} (ex : Ex B H) (rx : R K B x d) (ry : R K B y e) (h : gInTB d e = .ok b) (q : Q (.bl (if neg then !b else b)) H) : rInT K neg x y H Q := by
  unfold gInTB at h
  split at h
  · split at h
    · rename_i ks hk
      cases h
      obtain ⟨b, rfl, hb⟩ := keysOfF_ok (rx.mono ex) hk
      obtain ⟨a, kvs, vs, rfl, ha, ra, rfl⟩ := ent_inv (ry.mono ex)
      refine ⟨a, b, kvs, ks, rfl, rfl, ha, hb, ?_⟩
      have hv : (valV kvs ks).isSome = (entsT kvs vs).any (isK ks) := by
        rw [← valV_any, ent_any ks kvs vs (by simpa using ra.length)]
      rw [hv]
      exact q
    · cases h
  · cases h
theorem od_inT : OpD X E (rInT X.K false) gInT := by
  intro x y d e B H Q ex rx ry q
  unfold gInT at q
  cases hb : gInTB d e with
  | stuck => rw [hb] at q; exact q.elim
  | exc z =>
    unfold gInTB at hb
    split at hb
    · split at hb <;> cases hb
    · cases hb
  | ok b =>
    rw [hb] at q
    exact inT_cases ex rx ry hb (q.val ex (.bl _))
theorem od_notInT : OpD X E (rInT X.K true) gNotInT := by
  intro x y d e B H Q ex rx ry q
  unfold gNotInT at q
  cases hb : gInTB d e with
  | stuck => rw [hb] at q; exact q.elim
  | exc z =>
    unfold gInTB at hb
    split at hb
    · split at hb <;> cases hb
    · cases hb
  | ok b =>
    rw [hb] at q
    exact inT_cases ex rx ry hb (q.val ex (.bl _))
/-! ### d[k] = e -/
def rSetT : TSet := fun o y v H Q => ∃ a H', o = .ref a ∧ DPut H a y v H' ∧ Q H'
theorem set_dict (hu : X.A.units + 1 < cLine) : PSet X rSetT := by
  intro pins s σ H o i v ov iv u Q I ro ri rv h
  obtain ⟨a, H', rfl, g, q⟩ := h
  cases (show ov = Value.ref a from ro)
  exact d_setItem hu I g ri rv fun s' I' => ⟨H', I', q⟩
def oPutT (i : Nat) (fe fi : Env → M Sl) : Env → O := fun ρ => oOf (fe ρ) fun x => match ρ[i]? with
  | some (some (.own (.dict ((.bool true, .none) :: es)))) => oOf (fi ρ) fun y => (match keysOf y.d with
    | some ks => if big (es.length + 1) = true then .nx (ρ.set i (some (.own (.dict ((.bool true, .none) :: putE es ks x.d))))) else .stuck
    | none => .stuck)
  | _ => .stuck
theorem ds_putT {i : Nat} {tpos : Pos} (hu : X.A.units + 1 < cLine) (h : DE X E e fa) (ho : PE X a (tVar i)) (hi : DE X E b fb) (hs : swapsWithSole [Expr.Subscript a b tpos] e pos.line X.env = pure false := by rfl) (hw : swappedStores [Expr.Subscript a b tpos] e X.env = pure none := by rfl)
    (h1 : (assignEach [Expr.Subscript a b tpos] X.env).map (·.2) = [assign (Expr.Subscript a b tpos) X.env] := by rfl)
    (hg : ∀ v, assign (.Subscript a b tpos) X.env v = (do
      let ov ← holding [v] (eval a X.env)
      let iv ← holding [v, ov] (eval b X.env)
      standAt tpos
      holding [v, ov, iv] (setItem ov iv v)
      release [v, ov, iv] []) := by intro _; rfl) : DS X E (.Assign [.Subscript a b tpos] e pos) (oPutT i fa fb) := by
  obtain ⟨t, p, h⟩ := h
  obtain ⟨ti, pi, hi⟩ := hi
  refine ⟨_, ps_asg p (pg_sub ho pi (set_dict hu) hg) hs hw h1, fun B0 H0 B H σ ρ D re q => ?_⟩
  refine h B0 H0 B H σ ρ _ re (epost_of re q fun sl _ q v B1 H1 g1 r => ?_)
  obtain ⟨B2, g2, r2⟩ := r.fix g1
  split at q
  · rename_i es hl
    obtain ⟨p1, o, k1, k2, k3, k4, k5⟩ := re.own i _ hl
    refine ⟨_, k1, ?_⟩
    refine hi B0 H0 B2 H1 σ ρ _ (re.grow g2) (epost_of (re.grow g2) (SPost.grow g2.b q) fun sl2 _ q v2 B3 H3 g3 r3 => ?_)
    obtain ⟨B4, g4, r4⟩ := r3.fix g3
    split at q
    · rename_i ks hk
      split at q
      · rename_i hb
        have g24 := g2.trans g4
        obtain ⟨bk, rfl, hbk⟩ := keysOf_ok (r4.mono g4.s) hk
        have hp1 := g24.h p1 _ k4
        generalize hd : PyData.dict ((.bool true, .none) :: es) = d at k5
        cases k5 with
        | lst _ => cases hd
        | dK ra =>
          rename_i kvs vs
          injection hd with hd
          cases kvs with
          | nil => cases hd
          | cons kv kvs =>
            cases vs with
            | nil => cases hd
            | cons v vs =>
              injection hd with hd _
              injection hd with hd _
              obtain ⟨k, _⟩ := kv
              cases k <;> cases hd
        | dT ra =>
          rename_i kvs vs
          injection hd with hd
          injection hd with _ hd
          subst hd
          have nb : B4 p1 = none := g24.lm k4 k3 (fun _ h => nomatch h)
          obtain ⟨ws, w1, w2⟩ := ent_put (ks := ks) (r2.mono g4.b) (ra.mono g24.b)
          have hlen : kvs.length < sizeLine := by
            have e1 := ra.length
            have e2 := big_ok hb
            simp [List.length_zip] at e1 e2
            omega
          refine ⟨p1, _, rfl, .inr ⟨kvs, ks, bk, hp1, rfl, hbk, hlen, rfl⟩, ?_⟩
          refine q B4 _ σ g4.b ?_
          have hT : Top X.K B4 (.dT (putK kvs ks v)) (.dict ((.bool true, .none) :: entsT (putK kvs ks v) ws)) := .dT w1
          rw [w2] at hT
          exact (re.grow g24).own_put hl k1 hp1 nb k2 hT
      · exact q.elim
    · exact q.elim
  · exact q.elim
end
/-! ### the top's facts with one more Bool -/
end Dl
/-! The data layer: list(reversed(x)), x a list. -/
/-! The data layer: sorted(xs) of alike data. -/
namespace Dl
open PySem PySem.Spec PyProof.Rows L2
section
variable {X : Cx} {E : XK}
def tup1 (d : PyData) : Bool := match d with
  | .tuple (_ :: _) => true
  | _ => false
def noTN (d : PyData) : Bool := match d with
  | .tuple _ => false
  | .none => false
  | _ => true
def srtOk (ds : List PyData) : Bool := (ds.all fun d => ds.all fun e => PySem.W.alike d e) && ((ds.all tup1 || ds.all noTN) && ds.all fun d => d.canLay0 && decide (d.depth ≤ 30))
def srt (ds : List PyData) : List PyData := ds.mergeSort (PySem.W.dataLe false id)
def gSorted (ds : List PyData) : M Sl := match ds with
  | [.list l] => if srtOk l = true then .ok (.own (.list (srt l))) else .stuck
  | _ => .stuck
theorem each_of {K : PySem.W.Frag} {B : Hp} : ∀ {vs : List V} {us : List Value} {ds : List PyData}, Vals vs us → RA K B vs ds → PySem.W.EachIs (fun u d => ∃ v, RelV v u ∧ R K B v d) us ds
  | _, _, _, .nil, .nil => .nil
  | _, _, _, .cons r p, .cons q t => .cons ⟨_, r, q⟩ (each_of p t)
theorem of_each {K : PySem.W.Frag} {B : Hp} {us : List Value} {ds : List PyData} (h : PySem.W.EachIs (fun u d => ∃ v, RelV v u ∧ R K B v d) us ds) : ∃ vs, Vals vs us ∧ RA K B vs ds := by
  induction h with
  | nil => exact ⟨[], .nil, .nil⟩
  | cons r t ih =>
    obtain ⟨v, r1, r2⟩ := r
    obtain ⟨vs, q1, q2⟩ := ih
    exact ⟨v :: vs, .cons r1 q1, .cons r2 q2⟩
theorem each_reads {pins : List (Addr × Obj)} {σ : L2.St} {H B : Hp} {s : Shared} (I : Inv X pins σ H s) (ex : Ex B H) : ∀ {vs : List V} {us : List Value} {ds : List PyData}, Vals vs us → RA X.K B vs ds → (∀ d ∈ ds, d.canLay0 = true) → PySem.W.EachIs (fun u d => ∃ as, Reads s.heap u (id d) as) us ds
  | _, _, _, .nil, .nil, _ => .nil
  | _, _, _, .cons r p, .cons q t, h => .cons (Dp.reads I _ _ _ ((q.mono ex).dp (h _ (List.mem_cons_self ..))) r) (each_reads I ex p t fun d hd => h d (List.mem_cons_of_mem _ hd))
theorem srtOk_ok {ds : List PyData} (h : srtOk ds = true) : PySem.W.AllAlike ds ∧ PySem.W.Sortable ds ∧ ∀ d ∈ ds, d.canLay0 = true ∧ d.depth ≤ 30 := by
  unfold srtOk at h
  rw [Bool.and_eq_true, Bool.and_eq_true, Bool.or_eq_true] at h
  obtain ⟨h1, h2, h3⟩ := h
  refine ⟨fun d hd e he => List.all_eq_true.mp (List.all_eq_true.mp h1 d hd) e he, ?_, fun d hd => ?_⟩
  · rcases h2 with h2 | h2
    · refine .inl fun d hd => ?_
      have := List.all_eq_true.mp h2 d hd
      unfold tup1 at this
      split at this
      · exact ⟨_, _, rfl⟩
      · cases this
    · refine .inr fun d hd => ?_
      have := List.all_eq_true.mp h2 d hd
      unfold noTN at this
      split at this
      · cases this
      · cases this
      · rename_i k1 k2
        exact ⟨k2, k1⟩
  · have := List.all_eq_true.mp h3 d hd
    rw [Bool.and_eq_true, decide_eq_true_eq] at this
    exact this
def rSortD (K : PySem.W.Frag) : List V → Hp → VK → Prop := fun vs H Q => ∃ (a : Addr) (xs : List V) (ds : List PyData) (B : Hp), vs = [.ref a] ∧ SqL K H a xs ∧ Ex B H ∧ RA K B xs ds ∧ srtOk ds = true ∧ ∀ (ys : List V) (p : Addr), RA K B ys (srt ds) → H p = none → Q (.ref p) (upd H p (.lst ys))
theorem cr_sortD (hu : X.A.units + 64 < cLine) : CallR X (.builtin "sorted") (rSortD X.K) := by
  intro pins s σ H vs us Q I r h
  obtain ⟨a, xs, ds, B, rfl, hs, ex, ra, ok, q⟩ := h
  obtain ⟨its, rv, hl, hz⟩ := I.list hs
  rw [Vals.ref1 r]
  obtain ⟨o1, o2, o3⟩ := srtOk_ok ok
  have hlen : ds.length ≤ sizeLine := by rw [← ra.length]; exact hz
  refine PySem.W.sorted_data (bs := ds) (enc := id) hl.isList (each_of rv ra) (each_reads I ex rv ra fun d hd => (o3 d hd).1) (by rw [List.map_id]; exact o1) (by rw [List.map_id]; exact o2) hlen (fun d hd => ?_) fun out ho he => ?_
  · have := (o3 d hd).2
    show X.A.units + 2 + d.depth < cLine
    omega
  · obtain ⟨ys, y1, y2⟩ := of_each he
    obtain ⟨ep, he'⟩ := PyProof.Rows.sortedAll_at s.heap its out.toArray
    have hy : ys.length ≤ sizeLine := by rw [y1.length, ho]; exact hlen
    exact ⟨.ref _, upd H (s.heap.objs.size + 1) (.lst ys), I.laid (t' := s.toks) (fun _ _ => PyProof.Rows.sortedAll_old) (Nat.le_succ _) ⟨hy, out, ep, y1, he'⟩, rfl, q ys _ y2 (I.hok.fresh (Nat.le_succ _))⟩
theorem cd_sortD : CallD X E (rSortD X.K) gSorted := by
  intro xs ds B H Q ex ra q
  unfold gSorted at q
  split at q
  · rename_i l
    split at q
    · rename_i hok
      cases ra with
      | cons r t =>
        cases t
        cases r with
        | lst hh r2 => exact ⟨_, _, l, B, rfl, .of (ex _ _ hh), ex, r2, hok, fun ys p ry hp => EPost.own ex hp (.lst ry) q⟩
    · exact q.elim
  · exact q.elim
end
end Dl
/-! The data layer: what is never reached. -/
namespace Dl
open PySem PySem.Spec PyProof.Rows L2
section
variable {X : Cx} {E : XK}
/-! ### d[k], d.get(k, x), d a dict with tuples for keys -/
def rGetT : R2 := fun x y H Q => ∃ a v, x = .ref a ∧ DGet H a y (some v) ∧ Q v H
def gGetT (d e : PyData) : M Sl := match d with
  | .dict ((.bool true, .none) :: es) => (match keysOf e with
    | some ks => (match getE es ks with
      | some v => .ok (.dat v)
      | none => .stuck)
    | none => .stuck)
  | _ => .stuck
theorem od_getT : OpD X E rGetT gGetT := by
  intro x y d e B H Q ex rx ry q
  unfold gGetT at q
  split at q
  · split at q
    · rename_i ks hk
      split at q
      · rename_i v hv
        obtain ⟨b, rfl, hb⟩ := keysOf_ok (ry.mono ex) hk
        obtain ⟨a, kvs, vs, rfl, ha, ra, rfl⟩ := ent_inv rx
        rcases ent_get ks kvs vs ra with ⟨_, h2⟩ | ⟨w, d', h1, h2, r⟩
        · rw [h2] at hv; cases hv
        · rw [h2] at hv
          cases hv
          exact ⟨a, w, rfl, by rw [← h1]; exact DGet.t (ex _ _ ha) hb, q.val ex r⟩
      · exact q.elim
    · exact q.elim
  · exact q.elim
theorem de_getT {a b : Expr} {fa fb : Env → M Sl} {pos : Pos} (hu : X.A.units + 1 < cLine) (ha : DE X E a fa) (hb : DE X E b fb) (hs : NoSl b) : DE X E (.Subscript a b pos) (eOp gGetT fa fb) := by
  obtain ⟨ta, pa, ha⟩ := ha
  obtain ⟨tb, pb, hb⟩ := hb
  exact ⟨_, pe_dget hu pa pb hs, run_op od_getT ha hb⟩
end
end Dl
/-! The data layer: instances that stand still (their fields, their methods), raise. -/
namespace Dl
open PySem PySem.Spec PyProof.Rows L2
section
variable {X : Cx} {E : XK} {a b c e o : Expr} {es : List Expr} {fa fb fo : Env → M Sl} {pos : Pos}
/-! ### fields -/
def insE (fs : List (Str × V)) (vs : List PyData) : List (PyData × PyData) := (fs.map fun p => PyData.str p.1).zip vs
theorem ins_inv {K : PySem.W.Frag} {H : Hp} {v : V} {x : Str} {es : List (PyData × PyData)} (r : R K H v (.dict ((.none, .str x) :: es))) : ∃ a dx fs vs, v = .ref a ∧ H a = some (.ins (He.ga K x) dx fs) ∧ RA K H (fs.map (·.2)) vs ∧ es = insE fs vs := by
  generalize hd : PyData.dict ((.none, .str x) :: es) = d at r
  cases r with
  | ins h r =>
    injection hd with hd
    injection hd with h1 h2
    injection h1 with _ h1
    injection h1 with h1
    subst h1
    exact ⟨_, _, _, _, rfl, h, r, h2⟩
  | dK h r =>
    rename_i kvs vs
    injection hd with hd
    cases kvs with
    | nil => cases hd
    | cons kv kvs =>
      cases vs with
      | nil => cases hd
      | cons v vs =>
        injection hd with hd _
        injection hd with hd _
        obtain ⟨k, _⟩ := kv
        cases k <;> cases hd
  | dT h r =>
    injection hd with hd
    injection hd with hd _
    injection hd with hd _
    cases hd
  | tupF h r =>
    injection hd with hd
    injection hd with hd _
    injection hd with hd _
    cases hd
  | scr h =>
    injection hd with hd
    injection hd with hd _
    injection hd with _ hd
    cases hd
  | _ => cases hd
def isF (f : Str) (p : PyData × PyData) : Bool := match p.1 with
  | .str x => decide (x = f)
  | _ => false
def getF (es : List (PyData × PyData)) (f : Str) : Option PyData := (es.find? (isF f)).map (·.2)
theorem fld_get {K : PySem.W.Frag} {H : Hp} (f : Str) : ∀ (fs : List (Str × V)) (vs : List PyData), RA K H (fs.map (·.2)) vs → (fs.lookup f = none ∧ getF (insE fs vs) f = none) ∨ ∃ v d, fs.lookup f = some v ∧ getF (insE fs vs) f = some d ∧ R K H v d
  | [], _, .nil => .inl ⟨rfl, rfl⟩
  | (k, v) :: fs, d :: vs, .cons r q => by
    by_cases h : k = f
    · refine .inr ⟨v, d, ?_, ?_, r⟩
      · rw [h, List.lookup_cons_self]
      · unfold getF insE
        rw [List.map_cons, List.zip_cons_cons, List.find?_cons_of_pos (by unfold isF; simpa using h)]
        rfl
    · have e1 : List.lookup f ((k, v) :: fs) = List.lookup f fs := by
        have : (f == k) = false := by simpa using fun e : f = k => h e.symm
        simp [List.lookup, this]
      have e : getF (insE ((k, v) :: fs) (d :: vs)) f = getF (insE fs vs) f := by
        unfold getF insE
        rw [List.map_cons, List.zip_cons_cons, List.find?_cons_of_neg (by unfold isF; simpa using h)]
      rw [e1, e]
      exact fld_get f fs vs q
def gFld (x f : Str) (d : PyData) : M Sl := match d with
  | .dict ((.none, .str y) :: es) => if y = x then (match getF es f with
    | some v => .ok (.dat v)
    | none => .stuck) else .stuck
  | _ => .stuck
theorem gFld_ok {K : PySem.W.Frag} {B : Hp} {v : V} {x f : Str} {d : PyData} {sl : Sl} (r : R K B v d) (h : gFld x f d = .ok sl) : ∃ a dx fs u e, v = .ref a ∧ B a = some (.ins (He.ga K x) dx fs) ∧ fs.lookup f = some u ∧ R K B u e ∧ sl = .dat e := by
  unfold gFld at h
  split at h
  · split at h
    · rename_i y es hy
      subst hy
      obtain ⟨a, dx, fs, vs, rfl, ha, ra, rfl⟩ := ins_inv r
      split at h
      · rename_i w hw
        cases h
        rcases fld_get f fs vs ra with ⟨_, h2⟩ | ⟨u, d', h1, h2, r2⟩
        · rw [h2] at hw; cases hw
        · rw [h2] at hw
          cases hw
          exact ⟨a, dx, fs, u, _, rfl, ha, h1, r2, rfl⟩
      · cases h
    · cases h
  · cases h
theorem gFld_ne {x f : Str} {d : PyData} {z : Str} : gFld x f d ≠ .exc z := by
  intro h
  unfold gFld at h
  split at h
  · split at h
    · split at h <;> cases h
    · cases h
  · cases h
theorem de_fld {x f : Str} (hc : Cls X.K (He.ga X.K x)) (hn : NoAttr X.K (He.ga X.K x) f) (h : DE X E a fa) (hb : attributeBase a f X.env (eval a X.env) = eval a X.env := by rfl) : DE X E (.Attribute a f pos) (eUn (gFld x f) fa) := by
  obtain ⟨t, p, h⟩ := h
  refine ⟨_, pe_fld p hb, fun B0 H0 B H σ ρ Q re q => ?_⟩
  refine run_e h re ?_
  rcases q.bind with ⟨y, e1, q⟩ | ⟨y, e1, q⟩
  · refine .inl ⟨y, e1, fun v B1 H1 g1 r1 => ?_⟩
    have q := q.grow g1
    cases z : gFld x f y.d with
    | stuck => rw [z] at q; exact q.elim
    | exc w => exact (gFld_ne z).elim
    | ok sl =>
      rw [z] at q
      obtain ⟨a, dx, fs, u, e, rfl, ha, hl, ru, rfl⟩ := gFld_ok r1 z
      exact ⟨a, _, dx, fs, u, rfl, g1.s _ _ ha, hc, hn, hl, q.val g1.s ru⟩
  · exact .inr ⟨y, e1, q⟩
/-! ### methods -/
def KnowsM (P : Program) (w : World) (K : PySem.W.Frag) (mg : Str → Option Value) (base : Heap) (x m : Str) (k : Nat) (ps : List Str) (g : List PyData → M Sl) : Prop :=
  Cls K (He.ga K x) ∧ Meth K (He.ga K x) m (He.ma K (He.ga K x) m) ∧ ∃ fd, FnOk P w K mg base (L2N.CX P w) k (He.ma K (He.ga K x) m) fd ps (spD K ps.length g) ∧ Binds K fd ps []
def insOf (x m : Str) (d : PyData) : Bool := match d with
  | .dict ((.none, .str y) :: es) => decide (y = x) && (getF es m).isNone
  | _ => false
theorem insOf_ok {K : PySem.W.Frag} {B : Hp} {v : V} {x m : Str} {d : PyData} (r : R K B v d) (h : insOf x m d = true) : ∃ a dx fs, v = .ref a ∧ B a = some (.ins (He.ga K x) dx fs) ∧ fs.lookup m = none := by
  unfold insOf at h
  split at h
  · rename_i y es
    rw [Bool.and_eq_true, decide_eq_true_eq] at h
    obtain ⟨h1, h2⟩ := h
    subst h1
    obtain ⟨a, dx, fs, vs, rfl, ha, ra, rfl⟩ := ins_inv r
    rcases fld_get m fs vs ra with ⟨h3, _⟩ | ⟨u, d', h3, h4, r2⟩
    · exact ⟨a, dx, fs, rfl, ha, h3⟩
    · rw [h4] at h2
      cases h2
  · cases h
def eMeth (x m : Str) (g : List PyData → M Sl) (fo : Env → M Sl) (f : Env → M (List PyData)) : Env → M Sl := fun ρ => (fo ρ).bind fun o => if insOf x m o.d = true then (f ρ).bind fun ds => g (o.d :: ds) else .stuck
theorem run_meth {x m : Str} {k : Nat} {g : List PyData → M Sl} {n : Nat} {f : Env → M (List PyData)} {to : TE} {t : TA}
    (ho : ∀ B0 H0 B H σ ρ Q, ER X.K B0 H0 B H σ ρ → EPost X.K E B H (fo ρ) Q → to σ H Q)
    (h : ∀ B0 H0 B H σ ρ Q, ER X.K B0 H0 B H σ ρ → APost X.K E B H (f ρ) Q → t σ H Q) (hl : ∀ ρ ds, f ρ = .ok ds → ds.length + 1 = n) :
    ∀ B0 H0 B H σ ρ Q, ER X.K B0 H0 B H σ ρ → EPost X.K E B H (eMeth x m g fo f ρ) Q → tMeth (He.ga X.K x) m (spD X.K n g) [] E to t σ H Q := by
  intro B0 H0 B H σ ρ Q re q
  refine run_e ho re ?_
  rcases q.bind with ⟨y, e1, q⟩ | ⟨y, e1, q⟩
  · refine .inl ⟨y, e1, fun v B1 H1 g1 r1 => ?_⟩
    have q := q.grow g1
    split at q
    · rename_i hi
      obtain ⟨a, dx, fs, rfl, ha, hn⟩ := insOf_ok r1 hi
      refine ⟨a, dx, fs, rfl, g1.s _ _ ha, hn, ?_⟩
      refine run_a h (re.grow g1) ?_
      rcases q.bind with ⟨ds, e2, q⟩ | ⟨x, e2, q⟩
      · refine .inl ⟨ds, e2, fun vs B2 H2 g2 r2 => ?_⟩
        rw [List.append_nil]
        exact ⟨by rw [List.length_cons, r2.length]; exact hl ρ ds e2, _, B2, g2.s, .cons (r1.mono g2.b) r2, q.grow g2⟩
      · exact .inr ⟨x, e2, q⟩
    · exact q.elim
  · exact .inr ⟨y, e1, q⟩
theorem de_meth {x m : Str} {k : Nat} {ps : List Str} {g : List PyData → M Sl} {f : Env → M (List PyData)} {apos : Pos} (kn : KnowsM X.prog X.w X.K X.mg X.base x m k ps g) (hr : Room k X.A) (hx : Passes (L2N.CX X.prog X.w) X E)
    (ho : DE X E o fo) (h : DA X E (e :: es) f) (hl : ∀ ρ ds, f ρ = .ok ds → ds.length + 1 = ps.length)
    (hpe : ∀ {to : TE} {t : TA} {sp : Sp} {fd : FuncData}, PE X o to → PA X (e :: es) t → Meth X.K (He.ga X.K x) m (He.ma X.K (He.ga X.K x) m) → FnOk X.prog X.w X.K X.mg X.base (L2N.CX X.prog X.w) k (He.ma X.K (He.ga X.K x) m) fd ps sp → Binds X.K fd ps [] → Cls X.K (He.ga X.K x) →
      PE X (.Call (.Attribute o m apos) (e :: es) [] pos) (tMeth (He.ga X.K x) m sp [] E to t)) : DE X E (.Call (.Attribute o m apos) (e :: es) [] pos) (eMeth x m g fo f) := by
  obtain ⟨c, hm, fd, F, b⟩ := kn
  obtain ⟨to, po, ho⟩ := ho
  obtain ⟨t, pt, h⟩ := h
  exact ⟨_, hpe po pt hm F b c, run_meth (k := k) ho h hl⟩
theorem de_meth0 {x m : Str} {k : Nat} {ps : List Str} {g : List PyData → M Sl} {apos : Pos} (kn : KnowsM X.prog X.w X.K X.mg X.base x m k ps g) (hr : Room k X.A) (hx : Passes (L2N.CX X.prog X.w) X E)
    (ho : DE X E o fo) (hl : 1 = ps.length)
    (hpe : ∀ {to : TE} {sp : Sp} {fd : FuncData}, PE X o to → Meth X.K (He.ga X.K x) m (He.ma X.K (He.ga X.K x) m) → FnOk X.prog X.w X.K X.mg X.base (L2N.CX X.prog X.w) k (He.ma X.K (He.ga X.K x) m) fd ps sp → Binds X.K fd ps [] → Cls X.K (He.ga X.K x) →
      PE X (.Call (.Attribute o m apos) [] [] pos) (tMeth (He.ga X.K x) m sp [] E to tNil)) : DE X E (.Call (.Attribute o m apos) [] [] pos) (eMeth x m g fo aNil) := by
  obtain ⟨c, hm, fd, F, b⟩ := kn
  obtain ⟨to, po, ho⟩ := ho
  refine ⟨_, hpe po hm F b c, run_meth (k := k) ho (fun B0 H0 B H σ ρ Q re q => q [] B H (.refl re.gr.s) .nil) ?_⟩
  intro ρ ds e
  cases e
  exact hl
end
/-! ### raise X('..') -/
section
variable {X : Cx} {E : XK}
def oExc (x : Str) : Env → O := fun _ => .exc x
structure ExcOk (X : Cx) (x : Str) : Prop where
  q : PySem.W.excIn X.K (He.ga X.K x) He.veBase "ValueError.__new__" = true
  kp : PySem.W.keepIn X.K (.ref (He.ga X.K x)) = true
  r : Raises X (.ref (He.ga X.K x))
  mg : X.mg x = some (.ref (He.ga X.K x))
theorem ds_raise {x m : Str} {j : Nat} {p p2 pos pos2 : Pos} (hc : X.calm = true) (tk : L2N.Takes X (fun c d _ H => E c d H)) (T : ExcOk X x) (hg : Gl X x) (hdb : (x == ("__debug__" : Str)) = false := by decide) : DS X E (.Raise (some (.Call (.Name x p) [.Constant (.str m) j p2] [] pos)) none pos2) (oExc x) := by
  refine ⟨_, L2N.ps_raise hc tk (L2N.pmk_own PySem.F.excBase_ValueError T.q T.mg T.kp T.r hg hdb), fun B0 H0 B H σ ρ D re q => ?_⟩
  exact q H re.gr.h
end
/-! ### methods' defs -/
section
variable {P : Program} {w : World} {K : PySem.W.Frag} {mg : Str → Option Value} {base : Heap}
theorem fn_mk {x qual : Str} {st : Stmt} {N ps : List Str} {k : Nat} {o : Env → O} {f : Addr} (hF : ∃ fd, FunD K x qual (defArgs st) (defBody st) (defScope st) [] [] f fd) (S : FnScope N ps (defScope st))
    (hb : ∀ (kV doc pm : Value) (an : Option Addr) (cdv ct : Value) (us : List Value), us.length = ps.length → bindArgs (PySem.W.fnOf x qual (defArgs st) (defBody st) (defScope st) .none kV doc pm an cdv ct) ⟨us, []⟩ = pure (ps.zip us))
    (h : ∀ (cdv : Value) (A : Around) (outer : List PySem.Env) (s : Shared) (H : Hp) (E : XK), Room k (A.deeper (envOfC qual (defScope st) s.heap.objs.size f cdv)) →
      Passes (L2N.CX P w) (cxOf (L2N.CX P w) P w K mg base N qual (defScope st) f cdv A outer s H E) E →
      DSs (cxOf (L2N.CX P w) P w K mg base N qual (defScope st) f cdv A outer s H E) E (defBody st) o) : ∃ fd, FnOk P w K mg base (L2N.CX P w) (k + 1) f fd ps (spD K ps.length (fnO ps.length N.length o)) ∧ Binds K fd ps [] := by
  obtain ⟨fd, F⟩ := hF
  refine ⟨fd, ?_, F.bindsN hb⟩
  refine F.ok S (fun vs H Q E h => h.1) fun cdv A outer s H vs Q E hr hs => ?_
  exact body_ok (h cdv A outer s H E hr (L2N.passes_call (L2N.takes_of rfl rfl rfl rfl) fun _ _ _ _ z => z)) hs
end
end Dl
/-! The layer with objects that change: a store of instances (cells), each known by its number. -/
namespace Dl
open PySem PySem.Spec PyProof.Rows L2
/-- what a slot or a field holds: fixed data, a list or dict of one's own, the instance of a number -/
inductive Sv where
  | dat (d : PyData)
  | own (d : PyData)
  | ref (n : Nat)
  /-- the exception that a suite holds -/
  | exc
def Sl.sv : Sl → Sv
  | .dat d => .dat d
  | .own d => .own d
structure Cell where
  cls : Str
  fs : List (Str × Sv)
abbrev Store := List Cell
structure S2 where
  ρ : List (Option Sv)
  C : Store
inductive M2 (α : Type) where
  | stuck
  | exc (x : Str) (s : S2)
  | ok (a : α) (s : S2)
def M2.bind {α β : Type} : M2 α → (α → S2 → M2 β) → M2 β
  | .stuck, _ => .stuck
  | .exc x s, _ => .exc x s
  | .ok a s, f => f a s
theorem bind2_ok {α β : Type} (a : α) (s : S2) (f : α → S2 → M2 β) : (M2.ok a s).bind f = f a s := (Eq.refl (f a s)).trans (Eq.refl _)
inductive Owner where
  | cell (n : Nat)
  | fld (n : Nat) (f : Str)
/-- what a thing of one's own may be; b: also a list, a dict -/
def OwnZ (b : Bool) (o : HO) : Prop := match o with
  | .ins _ _ _ => True
  | .lst _ => b = true
  | .dK _ => b = true
  | .dT _ => b = true
  | _ => False
def OwnK (k : Owner) (o : HO) : Prop := match k with
  | .cell _ => OwnZ false o
  | .fld _ _ => Own o
theorem OwnK.noT {k : Owner} {o : HO} (h : OwnK k o) : ∀ xs, o ≠ .tup xs := by
  rintro xs rfl
  cases k <;> exact h
/-- the world: what is fixed, the heap, where the cells stand, who owns what -/
structure Wd where
  B : Hp
  H : Hp
  μ : Nat → Addr
  Ω : Addr → Option Owner
/-- the value v is what the field f of cell n holds -/
inductive FV (K : PySem.W.Frag) (w : Wd) (L n : Nat) (f : Str) : V → Sv → Prop
  | dat {v : V} {d : PyData} : R K w.B v d → FV K w L n f v (.dat d)
  | own {p : Addr} {o : HO} {d : PyData} : w.Ω p = some (.fld n f) → w.H p = some o → Top K w.B o d → FV K w L n f (.ref p) (.own d)
  | ref {m : Nat} : m < L → FV K w L n f (.ref (w.μ m)) (.ref m)
inductive FVs (K : PySem.W.Frag) (w : Wd) (L n : Nat) : List (Str × V) → List (Str × Sv) → Prop
  | nil : FVs K w L n [] []
  | cons {f : Str} {v : V} {sv : Sv} {fs : List (Str × V)} {gs : List (Str × Sv)} : FV K w L n f v sv → FVs K w L n fs gs → FVs K w L n ((f, v) :: fs) ((f, sv) :: gs)
/-- the store stands in the world -/
structure SR (K : PySem.W.Frag) (w : Wd) (C : Store) : Prop where
  s : Ex w.B w.H
  cell : ∀ n c, C[n]? = some c → ∃ dx fs, w.Ω (w.μ n) = some (.cell n) ∧ w.H (w.μ n) = some (.ins (He.ga K c.cls) dx fs) ∧ (c.fs.map (·.1)).Nodup ∧ FVs K w C.length n fs c.fs
  out : ∀ a o, w.Ω a = some o → w.B a = none
  has : ∀ a o, w.Ω a = some o → ∃ h, w.H a = some h ∧ OwnK o h
/-- how the world goes on: L cells stood -/
structure Chg (w : Wd) (L : Nat) (w' : Wd) : Prop where
  b : Ex w.B w'.B
  h : ∀ a o, w.H a = some o → w.Ω a = none → w'.H a = some o
  l : ∀ a o, w.H a = some o → w.Ω a = none → w.B a = none → w'.B a = none ∨ ∃ xs, o = .tup xs
  o : ∀ a o, w.H a = some o → w.Ω a = none → w'.Ω a = none
  k : ∀ a o, w.H a = some o → ∃ o', w'.H a = some o'
  m : ∀ n, n < L → w'.μ n = w.μ n
theorem Chg.refl (w : Wd) (L : Nat) : Chg w L w := ⟨.refl _, fun _ _ h _ => h, fun _ _ _ _ h => .inl h, fun _ _ _ h => h, fun _ o h => ⟨o, h⟩, fun _ _ => rfl⟩
theorem Chg.trans {w w1 w2 : Wd} {L L1 : Nat} (x : Chg w L w1) (y : Chg w1 L1 w2) (hl : L ≤ L1) : Chg w L w2 where
  b := x.b.trans y.b
  h := fun a o h n => y.h a o (x.h a o h n) (x.o a o h n)
  l := fun a o h n b => (x.l a o h n b).elim (fun m => y.l a o (x.h a o h n) (x.o a o h n) m) .inr
  o := fun a o h n => y.o a o (x.h a o h n) (x.o a o h n)
  k := fun a o h => let ⟨o', h'⟩ := x.k a o h; y.k a o' h'
  m := fun n h => (y.m n (Nat.lt_of_lt_of_le h hl)).trans (x.m n h)
/-- from here on: what stays while values are held -/
structure Up (w : Wd) (L : Nat) (w' : Wd) : Prop where
  b : Ex w.B w'.B
  m : ∀ n, n < L → w'.μ n = w.μ n
theorem Up.refl (w : Wd) (L : Nat) : Up w L w := ⟨.refl _, fun _ _ => rfl⟩
theorem Up.trans {w w1 w2 : Wd} {L L1 : Nat} (x : Up w L w1) (y : Up w1 L1 w2) (hl : L ≤ L1) : Up w L w2 := ⟨x.b.trans y.b, fun n h => (y.m n (Nat.lt_of_lt_of_le h hl)).trans (x.m n h)⟩
/-- a def's run: the world it began in, how many cells stood -/
structure Fr where
  w : Wd
  L : Nat
  /-- where the exception stands that a suite holds -/
  x : Addr
structure FrX (X : Cx) where
  f : Fr
  ok : X.calm = false → ∃ oe pn, X.pn = (f.x, oe) :: pn
instance {X : Cx} : CoeOut (FrX X) Fr := ⟨FrX.f⟩
/-- the slots and the store in the world -/
structure ER2 (K : PySem.W.Frag) (F : Fr) (w : Wd) (σ : L2.St) (s : S2) : Prop where
  gr : Chg F.w F.L w
  ln : F.L ≤ s.C.length
  st : SR K w s.C
  len : σ.length = s.ρ.length
  dat : ∀ (i : Nat) d, s.ρ[i]? = some (some (.dat d)) → ∃ v, σ[i]? = some (some v) ∧ R K w.B v d
  own : ∀ (i : Nat) d, s.ρ[i]? = some (some (.own d)) → ∃ p o, σ[i]? = some (some (.ref p)) ∧ F.w.H p = none ∧ w.B p = none ∧ w.Ω p = none ∧ w.H p = some o ∧ Top K w.B o d
  ex : ∀ (i : Nat), s.ρ[i]? = some (some .exc) → σ[i]? = some (some (.ref F.x))
  rf : ∀ (i : Nat) n, s.ρ[i]? = some (some (.ref n)) → σ[i]? = some (some (.ref (w.μ n))) ∧ n < s.C.length
  sep : ∀ (i j : Nat) d e p, s.ρ[i]? = some (some (.own d)) → s.ρ[j]? = some (some (.own e)) → σ[i]? = some (some (.ref p)) → σ[j]? = some (some (.ref p)) → i = j
/-- v is the value sv, nobody's yet -/
def VR (K : PySem.W.Frag) (F : Fr) (w : Wd) (σ : L2.St) (s : S2) (v : V) : Sv → Prop
  | .dat d => R K w.B v d
  | .own d => ∃ p o, v = .ref p ∧ F.w.H p = none ∧ w.B p = none ∧ w.Ω p = none ∧ w.H p = some o ∧ Top K w.B o d ∧ ∀ (i : Nat) e, s.ρ[i]? = some (some (.own e)) → σ[i]? ≠ some (some (.ref p))
  | .ref n => v = .ref (w.μ n) ∧ n < s.C.length
  | .exc => False
section
variable {K : PySem.W.Frag} {F : Fr} {w w' : Wd} {σ : L2.St} {s : S2}
theorem FV.mono {L L' n : Nat} {f : Str} {v : V} {sv : Sv} (hl : L ≤ L') (hb : Ex w.B w'.B) (hm : ∀ m, m < L → w'.μ m = w.μ m) (ho : ∀ p o, w.Ω p = some (.fld n f) → w.H p = some o → w'.Ω p = some (.fld n f) ∧ w'.H p = some o) (h : FV K w L n f v sv) : FV K w' L' n f v sv := by
  cases h with
  | dat r => exact .dat (r.mono hb)
  | own h1 h2 t => exact .own (ho _ _ h1 h2).1 (ho _ _ h1 h2).2 (t.mono hb)
  | ref h => rw [← hm _ h]; exact .ref (Nat.lt_of_lt_of_le h hl)
theorem FVs.mono {L L' n : Nat} {fs : List (Str × V)} {gs : List (Str × Sv)} (hl : L ≤ L') (hb : Ex w.B w'.B) (hm : ∀ m, m < L → w'.μ m = w.μ m) (ho : ∀ p f o, w.Ω p = some (.fld n f) → w.H p = some o → w'.Ω p = some (.fld n f) ∧ w'.H p = some o) (h : FVs K w L n fs gs) : FVs K w' L' n fs gs := by
  induction h with
  | nil => exact .nil
  | cons h _ ih => exact .cons (h.mono hl hb hm fun p o => ho p _ o) ih
/-- the pure part of the state -/
def hideS : Option Sv → Option Sl
  | some (.dat d) => some (.dat d)
  | some (.own d) => some (.own d)
  | _ => none
def hide (ρ : List (Option Sv)) : Env := ρ.map hideS
theorem hide_dat {ρ : List (Option Sv)} {i : Nat} {d : PyData} (h : (hide ρ)[i]? = some (some (.dat d))) : ρ[i]? = some (some (.dat d)) := by
  unfold hide at h
  rw [List.getElem?_map] at h
  cases e : ρ[i]? with
  | none => rw [e] at h; cases h
  | some x =>
    rw [e] at h
    cases x with
    | none => cases h
    | some sv =>
      cases sv with
      | dat d' => cases h; rfl
      | own d' => cases h
      | ref n => cases h
      | exc => cases h
theorem hide_own {ρ : List (Option Sv)} {i : Nat} {d : PyData} (h : (hide ρ)[i]? = some (some (.own d))) : ρ[i]? = some (some (.own d)) := by
  unfold hide at h
  rw [List.getElem?_map] at h
  cases e : ρ[i]? with
  | none => rw [e] at h; cases h
  | some x =>
    rw [e] at h
    cases x with
    | none => cases h
    | some sv =>
      cases sv with
      | own d' => cases h; rfl
      | dat d' => cases h
      | ref n => cases h
      | exc => cases h
/-- p is a slot's own -/
def OwnAt (σ : L2.St) (ρ : List (Option Sv)) (p : Addr) : Prop := ∃ (i : Nat) (d : PyData), ρ[i]? = some (some (.own d)) ∧ σ[i]? = some (some (.ref p))
open Classical in
noncomputable def hid (σ : L2.St) (ρ : List (Option Sv)) (H : Hp) : Hp := fun a => if OwnAt σ ρ a then none else H a
theorem hid_sub {ρ : List (Option Sv)} {H : Hp} : Ex (hid σ ρ H) H := fun a o h => by
  unfold hid at h
  split at h
  · cases h
  · exact h
theorem hid_own {ρ : List (Option Sv)} {H : Hp} {p : Addr} (h : OwnAt σ ρ p) : hid σ ρ H p = none := by
  unfold hid
  rw [if_pos h]
/-- seen by what is pure -/
theorem ER2.pure (r : ER2 K F w σ s) : ER K w.B (hid σ s.ρ w.H) w.B w.H σ (hide s.ρ) := by
  refine ⟨⟨.refl _, hid_sub, r.st.s, fun _ _ _ h => .inl h⟩, by unfold hide; rw [List.length_map]; exact r.len, fun i d e => r.dat i d (hide_dat e), fun i d e => ?_, fun i j d e p h1 h2 => r.sep i j d e p (hide_own h1) (hide_own h2)⟩
  obtain ⟨p, o, h1, _, h3, _, h5, h6⟩ := r.own i d (hide_own e)
  exact ⟨p, o, h1, hid_own ⟨i, d, hide_own e, h1⟩, h3, h5, h6⟩
/-- new things come beside -/
theorem ER2.grow {B' H' : Hp} (r : ER2 K F w σ s) (g : Gr w.B w.H B' H') : ER2 K F { w with B := B', H := H' } σ s where
  gr := ⟨r.gr.b.trans g.b, fun a o h n => g.h _ _ (r.gr.h a o h n), fun a o h n b => (r.gr.l a o h n b).elim (fun m => g.l _ _ (r.gr.h a o h n) m) .inr, r.gr.o, fun a o h => let ⟨o', h'⟩ := r.gr.k a o h; ⟨o', g.h _ _ h'⟩, r.gr.m⟩
  ln := r.ln
  st := ⟨g.s, fun n c e => let ⟨dx, fs, h1, h2, h0, h3⟩ := r.st.cell n c e; ⟨dx, fs, h1, g.h _ _ h2, h0, h3.mono (Nat.le_refl _) g.b (fun _ _ => rfl) fun p f o q1 q2 => ⟨q1, g.h _ _ q2⟩⟩, fun a o h => let ⟨u, q, z⟩ := r.st.has a o h; g.lm q (r.st.out a o h) z.noT, fun a o h => let ⟨u, q, z⟩ := r.st.has a o h; ⟨u, g.h _ _ q, z⟩⟩
  len := r.len
  dat := fun i d e => let ⟨v, h1, h2⟩ := r.dat i d e; ⟨v, h1, h2.mono g.b⟩
  own := fun i d e => let ⟨p, o, h1, h2, h3, h4, h5, h6⟩ := r.own i d e; ⟨p, o, h1, h2, g.lm h5 h3 h6.noT, h4, g.h _ _ h5, h6.mono g.b⟩
  ex := r.ex
  rf := r.rf
  sep := r.sep
theorem Up.of_gr {B' H' : Hp} {L : Nat} (g : Gr w.B w.H B' H') : Up w L { w with B := B', H := H' } := ⟨g.b, fun _ _ => rfl⟩
/-- a pure value is a value -/
theorem ER2.vr {B' H' : Hp} {v : V} {sl : Sl} (r : ER2 K F w σ s) (g : Gr w.B w.H B' H') (q : Res K w.H B' H' v sl) : VR K F { w with B := B', H := H' } σ s v sl.sv := by
  cases sl with
  | dat d => exact q
  | own d =>
    obtain ⟨p, o, rfl, n, nb, hp, t⟩ := q
    refine ⟨p, o, rfl, ?_, nb, ?_, hp, t, fun i e h1 h2 => ?_⟩
    · cases z : F.w.H p with
      | none => rfl
      | some u =>
        obtain ⟨o', h'⟩ := r.gr.k p u z
        rw [n] at h'
        cases h'
    · cases z : w.Ω p with
      | none => rfl
      | some u =>
        obtain ⟨o', h', _⟩ := r.st.has p u z
        rw [n] at h'
        cases h'
    · obtain ⟨p2, o2, k1, _, _, _, k5, _⟩ := r.own i e h1
      rw [h2] at k1
      cases k1
      rw [n] at k5
      cases k5
def Sv.isRef : Sv → Bool
  | .ref _ => true
  | .exc => true
  | _ => false
def Sv.d : Sv → PyData
  | .dat d => d
  | .own d => d
  | .ref _ => .none
  | .exc => .none
/-- a value of one's own is fixed -/
theorem ER2.fixV {v : V} {sv : Sv} (r : ER2 K F w σ s) (q : VR K F w σ s v sv) (hr : sv.isRef = false) : ∃ w', Up w s.C.length w' ∧ w'.H = w.H ∧ w'.μ = w.μ ∧ ER2 K F w' σ s ∧ R K w'.B v sv.d := by
  cases sv with
  | dat d => exact ⟨w, .refl _ _, rfl, rfl, r, q⟩
  | ref n => cases hr
  | exc => cases hr
  | own d =>
    obtain ⟨p, o, rfl, h0, hb, ho, hp, t, hs⟩ := q
    have x : Ex w.B (upd w.B p o) := .new hb
    refine ⟨{ w with B := upd w.B p o }, ⟨x, fun _ _ => rfl⟩, rfl, rfl, ?_, (t.mono x).r upd_same⟩
    refine ⟨⟨r.gr.b.trans x, r.gr.h, fun a u h n b => ?_, r.gr.o, r.gr.k, r.gr.m⟩, r.ln, ⟨fun a u h => ?_, fun n c e => ?_, fun a u h => ?_, r.st.has⟩, r.len, fun i c e => ?_, fun i c e => ?_, r.ex, r.rf, r.sep⟩
    · show upd w.B p o a = none ∨ _
      rw [upd_ne (ne_of_none h h0)]
      exact r.gr.l a u h n b
    · have h : upd w.B p o a = some u := h
      by_cases z : a = p
      · subst z
        rw [upd_same] at h
        cases h
        exact hp
      · rw [upd_ne z] at h
        exact r.st.s a u h
    · obtain ⟨dx, fs, h1, h2, h0, h3⟩ := r.st.cell n c e
      exact ⟨dx, fs, h1, h2, h0, h3.mono (Nat.le_refl _) x (fun _ _ => rfl) fun p f o q1 q2 => ⟨q1, q2⟩⟩
    · show upd w.B p o a = none
      have z : a ≠ p := fun z => by
        have h : w.Ω a = some u := h
        rw [z, ho] at h
        cases h
      rw [upd_ne z]
      exact r.st.out a u h
    · obtain ⟨v, k1, k2⟩ := r.dat i c e
      exact ⟨v, k1, k2.mono x⟩
    · obtain ⟨p2, o2, k1, k2, k3, k4, k5, k6⟩ := r.own i c e
      have z : p2 ≠ p := fun z => hs i c e (by rw [k1, z])
      exact ⟨p2, o2, k1, k2, by show upd w.B p o p2 = none; rw [upd_ne z]; exact k3, k4, k5, k6.mono x⟩
end
/-! ### weakest readings -/
def wE (X : Cx) (e : Expr) : TE := fun σ H Q => ∃ t, PE X e t ∧ t σ H Q
def wT (X : Cx) (e : Expr) : TT := fun σ H Q => ∃ t, PT X e t ∧ t σ H Q
def wA (X : Cx) (es : List Expr) : TA := fun σ H Q => ∃ t, PA X es t ∧ t σ H Q
def wS (X : Cx) (st : Stmt) : TS := fun D σ H => ∃ t, PS X st t ∧ t D σ H
def wSs (X : Cx) (st : List Stmt) : TS := fun D σ H => ∃ t, PSs X st t ∧ t D σ H
def wI (X : Cx) (tg iter : Expr) : TI := fun σ H Q => ∃ t, PI X tg iter t ∧ t σ H Q
def wG (X : Cx) (tg : Expr) : TG := fun v σ H Q => ∃ t, PG X tg t ∧ t v σ H Q
section
variable {X : Cx}
theorem pe_w {e : Expr} : PE X e (wE X e) := ⟨fun pins s σ H Q I ⟨_, p, h⟩ => p.run pins s σ H Q I h⟩
theorem pt_w {e : Expr} : PT X e (wT X e) := ⟨fun pins s σ H Q I ⟨_, p, h⟩ => p.run pins s σ H Q I h⟩
theorem pa_w {es : List Expr} : PA X es (wA X es) := ⟨fun pos pins s σ H Q I ⟨_, p, h⟩ => p.run pos pins s σ H Q I h⟩
theorem ps_w {st : Stmt} : PS X st (wS X st) := ⟨fun pins s σ H Q I ⟨_, p, h⟩ => p.run pins s σ H Q I h⟩
theorem pss_w {st : List Stmt} : PSs X st (wSs X st) := ⟨fun pins s σ H Q I ⟨_, p, h⟩ => p.run pins s σ H Q I h⟩
theorem pi_w {tg iter : Expr} : PI X tg iter (wI X tg iter) := ⟨fun pins s σ H Q I ⟨_, p, h⟩ => p.run pins s σ H Q I h⟩
theorem pg_w {tg : Expr} : PG X tg (wG X tg) := ⟨fun pins s σ H v u Q I r ⟨_, p, h⟩ => p.run pins s σ H v u Q I r h⟩
end
/-! ### judgements -/
section
variable {K : PySem.W.Frag} {F : Fr} {W : WX} {w w' : Wd} {σ : L2.St} {s : S2} {L : Nat}
/-- what is wanted of an exception -/
def XP2 (K : PySem.W.Frag) (F : Fr) (W : WX) (σ : L2.St) (w : Wd) (L : Nat) (x : Str) (s' : S2) : Prop := ∀ w', Up w L w' → L ≤ s'.C.length → ER2 K F w' σ s' → W (.ref (He.ga K x)) none σ w'.H
def EP2 (K : PySem.W.Frag) (F : Fr) (W : WX) (σ : L2.St) (w : Wd) (L : Nat) (r : M2 Sv) (Q : VK) : Prop := match r with
  | .stuck => False
  | .exc x s' => XP2 K F W σ w L x s'
  | .ok sv s' => ∀ v w', Up w L w' → L ≤ s'.C.length → ER2 K F w' σ s' → VR K F w' σ s' v sv → Q v w'.H
def TP2 (K : PySem.W.Frag) (F : Fr) (W : WX) (σ : L2.St) (w : Wd) (L : Nat) (r : M2 Bool) (Q : Bool → Hp → Prop) : Prop := match r with
  | .stuck => False
  | .exc x s' => XP2 K F W σ w L x s'
  | .ok b s' => ∀ w', Up w L w' → L ≤ s'.C.length → ER2 K F w' σ s' → Q b w'.H
/-- an argument: fixed data, or an instance -/
def AV (K : PySem.W.Frag) (w : Wd) (L : Nat) (v : V) : Sv → Prop
  | .dat d => R K w.B v d
  | .own _ => False
  | .ref n => v = .ref (w.μ n) ∧ n < L
  | .exc => False
inductive AVs (K : PySem.W.Frag) (w : Wd) (L : Nat) : List V → List Sv → Prop
  | nil : AVs K w L [] []
  | cons {v : V} {sv : Sv} {vs : List V} {svs : List Sv} : AV K w L v sv → AVs K w L vs svs → AVs K w L (v :: vs) (sv :: svs)
theorem AV.mono {L L' : Nat} {v : V} {sv : Sv} (hl : L ≤ L') (u : Up w L w') (h : AV K w L v sv) : AV K w' L' v sv := by
  cases sv with
  | dat d => exact R.mono u.b h
  | own d => exact h
  | exc => exact h
  | ref n => exact ⟨by rw [u.m _ h.2]; exact h.1, Nat.lt_of_lt_of_le h.2 hl⟩
theorem AVs.mono {L L' : Nat} {vs : List V} {svs : List Sv} (hl : L ≤ L') (u : Up w L w') (h : AVs K w L vs svs) : AVs K w' L' vs svs := by
  induction h with
  | nil => exact .nil
  | cons h _ ih => exact .cons (h.mono hl u) ih
theorem AVs.length {L : Nat} {vs : List V} {svs : List Sv} (h : AVs K w L vs svs) : vs.length = svs.length := by
  induction h with
  | nil => rfl
  | cons _ _ ih => rw [List.length_cons, List.length_cons, ih]
def AP2 (K : PySem.W.Frag) (F : Fr) (W : WX) (σ : L2.St) (w : Wd) (L : Nat) (r : M2 (List Sv)) (Q : List V → Hp → Prop) : Prop := match r with
  | .stuck => False
  | .exc x s' => XP2 K F W σ w L x s'
  | .ok svs s' => ∀ vs w', Up w L w' → L ≤ s'.C.length → ER2 K F w' σ s' → AVs K w' s'.C.length vs svs → Q vs w'.H
def DE2 (X : Cx) (W : WX) (e : Expr) (f : S2 → M2 Sv) : Prop := ∀ (F : FrX X) w σ s Q, ER2 X.K F w σ s → EP2 X.K F W σ w s.C.length (f s) Q → wE X e σ w.H Q
def DT2 (X : Cx) (W : WX) (e : Expr) (f : S2 → M2 Bool) : Prop := ∀ (F : FrX X) w σ s Q, ER2 X.K F w σ s → TP2 X.K F W σ w s.C.length (f s) Q → wT X e σ w.H Q
def DA2 (X : Cx) (W : WX) (es : List Expr) (f : S2 → M2 (List Sv)) : Prop := ∀ (F : FrX X) w σ s Q, ER2 X.K F w σ s → AP2 X.K F W σ w s.C.length (f s) Q → wA X es σ w.H Q
theorem XP2.grow {L' : Nat} {x : Str} {s' : S2} (hl : L ≤ L') (u : Up w L w') (h : XP2 K F W σ w L x s') : XP2 K F W σ w' L' x s' := fun w2 u2 l2 r => h w2 (u.trans u2 hl) (Nat.le_trans hl l2) r
theorem EP2.grow {L' : Nat} {r : M2 Sv} {Q : VK} (hl : L ≤ L') (u : Up w L w') (h : EP2 K F W σ w L r Q) : EP2 K F W σ w' L' r Q := by
  cases r with
  | stuck => exact h
  | exc x s' => exact XP2.grow hl u h
  | ok sv s' => exact fun v w2 u2 l2 => h v w2 (u.trans u2 hl) (Nat.le_trans hl l2)
theorem TP2.grow {L' : Nat} {r : M2 Bool} {Q : Bool → Hp → Prop} (hl : L ≤ L') (u : Up w L w') (h : TP2 K F W σ w L r Q) : TP2 K F W σ w' L' r Q := by
  cases r with
  | stuck => exact h
  | exc x s' => exact XP2.grow hl u h
  | ok sv s' => exact fun w2 u2 l2 => h w2 (u.trans u2 hl) (Nat.le_trans hl l2)
theorem AP2.grow {L' : Nat} {r : M2 (List Sv)} {Q : List V → Hp → Prop} (hl : L ≤ L') (u : Up w L w') (h : AP2 K F W σ w L r Q) : AP2 K F W σ w' L' r Q := by
  cases r with
  | stuck => exact h
  | exc x s' => exact XP2.grow hl u h
  | ok sv s' => exact fun v w2 u2 l2 => h v w2 (u.trans u2 hl) (Nat.le_trans hl l2)
theorem EP2.bind {α : Type} {r : M2 α} {g : α → S2 → M2 Sv} {Q : VK} (h : EP2 K F W σ w L (r.bind g) Q) : (∃ a s', r = .ok a s' ∧ EP2 K F W σ w L (g a s') Q) ∨ ∃ x s', r = .exc x s' ∧ XP2 K F W σ w L x s' := by
  cases r with
  | stuck => exact h.elim
  | exc x s' => exact .inr ⟨x, s', rfl, h⟩
  | ok a s' => exact .inl ⟨a, s', rfl, h⟩
theorem TP2.bind {α : Type} {r : M2 α} {g : α → S2 → M2 Bool} {Q : Bool → Hp → Prop} (h : TP2 K F W σ w L (r.bind g) Q) : (∃ a s', r = .ok a s' ∧ TP2 K F W σ w L (g a s') Q) ∨ ∃ x s', r = .exc x s' ∧ XP2 K F W σ w L x s' := by
  cases r with
  | stuck => exact h.elim
  | exc x s' => exact .inr ⟨x, s', rfl, h⟩
  | ok a s' => exact .inl ⟨a, s', rfl, h⟩
theorem AP2.bind {α : Type} {r : M2 α} {g : α → S2 → M2 (List Sv)} {Q : List V → Hp → Prop} (h : AP2 K F W σ w L (r.bind g) Q) : (∃ a s', r = .ok a s' ∧ AP2 K F W σ w L (g a s') Q) ∨ ∃ x s', r = .exc x s' ∧ XP2 K F W σ w L x s' := by
  cases r with
  | stuck => exact h.elim
  | exc x s' => exact .inr ⟨x, s', rfl, h⟩
  | ok a s' => exact .inl ⟨a, s', rfl, h⟩
end
/-! ### runs, seen from what comes behind -/
section
variable {X : Cx} {W : WX} {F : FrX X} {w : Wd} {σ : L2.St} {s : S2} {e a b o : Expr} {es : List Expr} {f g : S2 → M2 Sv} {pos : Pos}
theorem run2 (h : DE2 X W e f) {Q : VK} (r : ER2 X.K F w σ s)
    (hf : (∃ sv s', f s = .ok sv s' ∧ ∀ v w', Up w s.C.length w' → s.C.length ≤ s'.C.length → ER2 X.K F w' σ s' → VR X.K F w' σ s' v sv → Q v w'.H) ∨ ∃ x s', f s = .exc x s' ∧ XP2 X.K F W σ w s.C.length x s') : wE X e σ w.H Q := by
  rcases hf with ⟨sv, s', e1, k⟩ | ⟨x, s', e1, k⟩
  · refine h F w σ s Q r ?_
    rw [e1]
    exact k
  · refine h F w σ s Q r ?_
    rw [e1]
    exact k
/-- .. the value fixed, where it is no instance -/
theorem run2f (h : DE2 X W e f) {Q : VK} (r : ER2 X.K F w σ s)
    (hf : (∃ sv s', f s = .ok sv s' ∧ sv.isRef = false ∧ ∀ v w', Up w s.C.length w' → s.C.length ≤ s'.C.length → ER2 X.K F w' σ s' → R X.K w'.B v sv.d → Q v w'.H) ∨ ∃ x s', f s = .exc x s' ∧ XP2 X.K F W σ w s.C.length x s') : wE X e σ w.H Q := by
  refine run2 h r ?_
  rcases hf with ⟨sv, s', e1, e2, k⟩ | z
  · refine .inl ⟨sv, s', e1, fun v w' u l r' q => ?_⟩
    obtain ⟨w2, u2, eh, em, r2, q2⟩ := r'.fixV q e2
    rw [← eh]
    exact k v w2 (u.trans u2 l) l r2 q2
  · exact .inr z
/-- .. an argument -/
def Sv.arg : Sv → Sv
  | .own d => .dat d
  | x => x
theorem run2a (h : DE2 X W e f) {Q : VK} (r : ER2 X.K F w σ s)
    (hf : (∃ sv s', f s = .ok sv s' ∧ ∀ v w', Up w s.C.length w' → s.C.length ≤ s'.C.length → ER2 X.K F w' σ s' → AV X.K w' s'.C.length v sv.arg → Q v w'.H) ∨ ∃ x s', f s = .exc x s' ∧ XP2 X.K F W σ w s.C.length x s') : wE X e σ w.H Q := by
  refine run2 h r ?_
  rcases hf with ⟨sv, s', e1, k⟩ | z
  · refine .inl ⟨sv, s', e1, fun v w' u l r' q => ?_⟩
    cases sv with
    | ref n => exact k v w' u l r' q
    | exc => exact k v w' u l r' q
    | dat d => exact k v w' u l r' q
    | own d =>
      obtain ⟨w2, u2, eh, em, r2, q2⟩ := r'.fixV q rfl
      rw [← eh]
      exact k v w2 (u.trans u2 l) l r2 q2
  · exact .inr z
/-! ### what is pure -/
def lift (f : Env → M Sl) : S2 → M2 Sv := fun s => match f (hide s.ρ) with
  | .stuck => .stuck
  | .exc x => .exc x s
  | .ok sl => .ok sl.sv s
def liftT (f : Env → M Bool) : S2 → M2 Bool := fun s => match f (hide s.ρ) with
  | .stuck => .stuck
  | .exc x => .exc x s
  | .ok b => .ok b s
abbrev WC (E : XK) : WX := fun c d _ H => E c d H
theorem e2_lift {E : XK} {f : Env → M Sl} (h : DE X E e f) : DE2 X (WC E) e (lift f) := by
  intro F w σ s Q r q
  obtain ⟨t, p, h⟩ := h
  refine ⟨t, p, h _ _ _ _ _ _ _ r.pure ?_⟩
  unfold lift at q
  cases z : f (hide s.ρ) with
  | stuck => rw [z] at q; exact q.elim
  | exc x =>
    rw [z] at q
    exact fun H' ex => q { w with B := w.B, H := H' } ⟨.refl _, fun _ _ => rfl⟩ (Nat.le_refl _) (r.grow ⟨.refl _, ex, r.st.s.trans ex, fun _ _ _ h => .inl h⟩)
  | ok sl =>
    rw [z] at q
    exact fun v B' H' g res => q v _ (.of_gr g) (Nat.le_refl _) (r.grow g) (r.vr g res)
theorem t2_lift {E : XK} {f : Env → M Bool} (h : DT X E e f) : DT2 X (WC E) e (liftT f) := by
  intro F w σ s Q r q
  obtain ⟨t, p, h⟩ := h
  refine ⟨t, p, h _ _ _ _ _ _ _ r.pure ?_⟩
  unfold liftT at q
  cases z : f (hide s.ρ) with
  | stuck => rw [z] at q; exact q.elim
  | exc x =>
    rw [z] at q
    exact fun H' ex => q { w with B := w.B, H := H' } ⟨.refl _, fun _ _ => rfl⟩ (Nat.le_refl _) (r.grow ⟨.refl _, ex, r.st.s.trans ex, fun _ _ _ h => .inl h⟩)
  | ok sl =>
    rw [z] at q
    exact fun B' H' g => q _ (.of_gr g) (Nat.le_refl _) (r.grow g)
end
end Dl
/-! The layer with objects that change: expressions. -/
namespace Dl
open PySem PySem.Spec PyProof.Rows L2
/-! ### methods and makers, where what is let out may look at the slots -/
section
variable {X : Cx} {CX : CXT} {k : Nat} {f C : Addr} {fd : FuncData} {ps : List Str} {sp : Sp} {E : L2.St → XK} {x m : Str} {p pos apos : Pos} {e o : Expr} {es : List Expr} {ta : TE} {t : TA}
def tMethA (C : Addr) (m : Str) (sp : Sp) (E : L2.St → XK) (ta : TE) (t : TA) : TE := fun σ H Q => ta σ H fun x H1 => ∃ a dx fs, x = .ref a ∧ H1 a = some (.ins C dx fs) ∧ fs.lookup m = none ∧ t σ H1 fun vs H2 => sp (x :: vs) H2 Q (E σ)
theorem pe_methA {pl : Sem Bool} (he : PE X o ta) (c : Cls X.K C) (hm : Meth X.K C m f) (F : FnOk X.prog X.w X.K X.mg X.base CX k f fd ps sp) (hr : Room k X.A) (hb : Binds X.K fd ps []) (hx : ∀ σ, PassesAt CX X σ (E σ)) (ha : PA X (e :: es) t)
    (hst : starEach (e :: es) X.env = (false, eval e X.env) :: starEach es X.env := by rfl) (hpl : (backTo pos (starEach es X.env)).any (·.1) = false := by rfl)
    (ht : eval (.Call (.Attribute o m apos) (e :: es) [] pos) X.env = (do
      let ov ← eval o X.env
      standAt apos.atName
      let (f, first) ← holding [ov] (getMethod ov m pl)
      callWith pos f first (backTo pos (starEach (e :: es) X.env)) (backToKw pos (keywordEach [] X.env))) := by rfl) :
    PE X (.Call (.Attribute o m apos) (e :: es) [] pos) (tMethA C m sp E ta t) := by
  refine ⟨fun pins s σ H Q I h => ?_⟩
  refine PySem.W.methodCall_KW (pl := pl) (thn (he.run pins s σ H _ I h) fun u s1 ⟨x, H1, I1, rx, a, dx, fs, ex, ea, l, q⟩ => ?_) ht
  subst ex
  obtain rfl : u = Value.ref a := rx
  refine getmeth_ok I1 ea c hm l ?_
  refine PySem.W.callWith_K (first := [.ref a]) (h₀ := X.base) I.ok.mod.kin hm.kp (thn (ha.run pos pins s1 σ H1 _ I1 q) fun us s2 ⟨vs, H2, I2, r, q2⟩ => ⟨I2.kIn, ?_⟩) hst hpl
  exact run_fnS (us := .ref a :: us) (vs := .ref a :: vs) F hr hb (hx σ) I2 (.cons rfl r) q2
theorem pe_methA0 {pl : Sem Bool} (he : PE X o ta) (c : Cls X.K C) (hm : Meth X.K C m f) (F : FnOk X.prog X.w X.K X.mg X.base CX k f fd ps sp) (hr : Room k X.A) (hb : Binds X.K fd ps []) (hx : ∀ σ, PassesAt CX X σ (E σ))
    (ht : eval (.Call (.Attribute o m apos) [] [] pos) X.env = (do
      let ov ← eval o X.env
      standAt apos.atName
      let (f, first) ← holding [ov] (getMethod ov m pl)
      callWith pos f first (backTo pos (starEach [] X.env)) (backToKw pos (keywordEach [] X.env))) := by rfl) :
    PE X (.Call (.Attribute o m apos) [] [] pos) (tMethA C m sp E ta tNil) := by
  refine ⟨fun pins s σ H Q I h => ?_⟩
  refine PySem.W.methodCall_KW (pl := pl) (thn (he.run pins s σ H _ I h) fun u s1 ⟨x, H1, I1, rx, a, dx, fs, ex, ea, l, q⟩ => ?_) ht
  subst ex
  obtain rfl : u = Value.ref a := rx
  refine getmeth_ok I1 ea c hm l ?_
  exact PySem.W.callWith_K0 (first := [.ref a]) I1.kIn hm.kp (run_fnS (us := [.ref a]) (vs := [.ref a]) F hr hb (hx σ) I1 (.cons rfl .nil) q)
theorem run_makeS {pins : List (Addr × Obj)} {σ : L2.St} {H : Hp} {s : Shared} {Q : VK} {us : List Value} {vs : List V} (M : Mk X.K C f) (F : FnOk X.prog X.w X.K X.mg X.base CX k f fd ps sp) (hr : Room (k + 1) X.A) (hb : Binds X.K fd ps [])
    (hx : PassesAt CX X σ (E σ)) (I : Inv X pins σ H s) (r : Vals vs us)
    (h : ∀ x dx, H x = none → H dx = none → dx ≠ x → sp (.ref x :: vs) (upd (upd H dx (.own x)) x (.ins C dx [])) (fun v H2 => v = .non ∧ Q (.ref x) H2) (E σ)) :
    wpAny (model X.prog X.w) X.A (call (.ref C) us) (EP X pins σ Q) X.xe s := by
  have hq := h (s.heap.objs.size + 1) s.heap.objs.size (I.hok.fresh (Nat.le_succ _)) (I.hok.fresh (Nat.le_refl _)) (Nat.ne_of_lt (Nat.lt_succ_self _))
  have I2 := Inv.made (C := C) I
  have r2 : Vals (V.ref (s.heap.objs.size + 1) :: vs) (Value.ref (s.heap.objs.size + 1) :: us) := .cons rfl r
  have hl : (Value.ref (s.heap.objs.size + 1) :: us ++ []).length = ps.length := by
    have e := r2.length
    rw [F.len _ _ _ _ hq] at e
    rw [List.append_nil]
    exact e.symm
  have b := hb _ (Value.ref (s.heap.objs.size + 1) :: us) I2.kIn hl
  rw [List.append_nil] at b
  refine wpAny_call (make_map (f := f) I.kIn M.makes M.init (beq_iff_eq.mp M.fn) (codeAny_mono (F.run _ X.stack _ _ ⟨Value.ref (s.heap.objs.size + 1) :: us, []⟩ (Value.ref (s.heap.objs.size + 1) :: us) _ _ (E σ) (hr.make C us [])
    (I2.env0.make C us []) b r2 hq) fun r s' hq' => ?_))
  cases r with
  | error e => exact hx pins _ _ e s' I2 hq'
  | ok fl =>
    cases fl with
    | ret u =>
      obtain ⟨v, H', I3, rv, ev, q3⟩ := I2.after hq'
      subst ev
      exact ⟨rv, ⟨V.ref (s.heap.objs.size + 1), H', I3, rfl, q3⟩⟩
    | next => exact False.elim hq'
    | brk => exact False.elim hq'
    | cont => exact False.elim hq'
def tMakeA (C : Addr) (sp : Sp) (E : L2.St → XK) (t : TA) : TE := fun σ H Q => t σ H fun vs H1 => ∀ x dx, H1 x = none → H1 dx = none → dx ≠ x →
  sp (.ref x :: vs) (upd (upd H1 dx (.own x)) x (.ins C dx [])) (fun v H2 => v = .non ∧ Q (.ref x) H2) (E σ)
theorem pe_makeA0 (M : Mk X.K C f) (F : FnOk X.prog X.w X.K X.mg X.base CX k f fd ps sp) (hr : Room (k + 1) X.A) (hg : Gl X x) (hm : X.mg x = some (.ref C)) (hb : Binds X.K fd ps []) (hx : ∀ σ, PassesAt CX X σ (E σ))
    (hdb : (x == ("__debug__" : Str)) = false := by decide) : PE X (.Call (.Name x p) [] [] pos) (tMakeA C sp E tNil) := by
  refine ⟨fun pins s σ H Q I h => ?_⟩
  refine wpAny_Call_Name_kw (ld_glob I hg hm ?_ hdb)
  exact PySem.W.callWith_K0 I.kIn M.kp (run_makeS (us := []) M F hr hb (hx σ) I .nil h)
end
/-! ### all that is one's own, seen as if it stood still -/
/-- the data of a value; b: lists of one's own may be seen, too -/
def resF (r : Sv → Option PyData) : List (Str × Sv) → Option (List (PyData × PyData))
  | [] => some []
  | (f, sv) :: l => (r sv).bind fun d => (resF r l).bind fun m => some ((.str f, d) :: m)
def resS (b : Bool) (C : Store) : Nat → Sv → Option PyData
  | _, .dat d => some d
  | _, .own d => if b = true then some d else none
  | _, .exc => none
  | 0, .ref _ => none
  | k + 1, .ref n => match C[n]? with
    | some c => (resF (resS b C k) c.fs).bind fun l => some (.dict ((.none, .str c.cls) :: l))
    | none => none
def resO (b : Bool) (C : Store) (o : Option Sv) : Option Sl := o.bind fun sv => (resS b C 4 sv).map Sl.dat
def pubEnv (b : Bool) (s : S2) : Env := s.ρ.map (resO b s.C)
/-- what can be seen at a -/
def Seen (b : Bool) (w : Wd) (σ : L2.St) (ρ : List (Option Sv)) (a : Addr) : Prop := (∃ n, w.Ω a = some (.cell n)) ∨ (b = true ∧ ((∃ o, w.Ω a = some o) ∨ OwnAt σ ρ a))
open Classical in
noncomputable def pubB (b : Bool) (w : Wd) (σ : L2.St) (ρ : List (Option Sv)) : Hp := fun a => if Seen b w σ ρ a then w.H a else w.B a
theorem resF_cons {r : Sv → Option PyData} {f : Str} {sv : Sv} {l : List (Str × Sv)} {m : List (PyData × PyData)} (h : resF r ((f, sv) :: l) = some m) : ∃ d m', r sv = some d ∧ resF r l = some m' ∧ m = (.str f, d) :: m' := by
  unfold resF at h
  obtain ⟨d, h1, h⟩ := Option.bind_eq_some_iff.mp h
  obtain ⟨m', h2, h⟩ := Option.bind_eq_some_iff.mp h
  cases h
  exact ⟨d, m', h1, h2, rfl⟩
section
variable {K : PySem.W.Frag} {F : Fr} {w : Wd} {σ : L2.St} {s : S2} {b : Bool}
theorem pub_ex (r : ER2 K F w σ s) : Ex w.B (pubB b w σ s.ρ) := fun a o h => by
  unfold pubB
  split
  · rename_i z
    exfalso
    rcases z with ⟨n, z⟩ | ⟨_, ⟨n, z⟩ | ⟨i, d, z1, z2⟩⟩
    · rw [r.st.out a _ z] at h; cases h
    · rw [r.st.out a _ z] at h; cases h
    · obtain ⟨p, o2, k1, _, k3, _⟩ := r.own i d z1
      rw [z2] at k1
      cases k1
      rw [k3] at h
      cases h
  · exact h
theorem pub_sub (r : ER2 K F w σ s) : Ex (pubB b w σ s.ρ) w.H := fun a o h => by
  unfold pubB at h
  split at h
  · exact h
  · exact r.st.s a o h
theorem pub_at {a : Addr} (z : Seen b w σ s.ρ a) : pubB b w σ s.ρ a = w.H a := by
  unfold pubB
  rw [if_pos z]
theorem pub_kind (r : ER2 K F w σ s) : ∀ a o, pubB b w σ s.ρ a = some o → w.B a = some o ∨ OwnZ b o := fun a o h => by
  unfold pubB at h
  split at h
  · rename_i z
    have own_z : ∀ o, Own o → OwnZ true o := fun o h => by
      cases o <;> first | rfl | exact h.elim
    rcases z with ⟨n, z⟩ | ⟨hb, ⟨n, z⟩ | ⟨i, d, z1, z2⟩⟩
    · obtain ⟨u, k1, k2⟩ := r.st.has a _ z
      rw [h] at k1
      cases k1
      refine .inr ?_
      have k2 : OwnZ false o := k2
      unfold OwnZ at k2 ⊢
      split at k2 <;> first | trivial | cases k2 | exact k2.elim
    · obtain ⟨u, k1, k2⟩ := r.st.has a _ z
      rw [h] at k1
      cases k1
      subst hb
      refine .inr ?_
      cases n with
      | cell n =>
        have k2 : OwnZ false o := k2
        unfold OwnZ at k2 ⊢
        split at k2 <;> first | trivial | cases k2 | exact k2.elim
      | fld n f => exact own_z o k2
    · subst hb
      obtain ⟨p, o2, k1, _, _, _, k5, k6⟩ := r.own i d z1
      rw [z2] at k1
      cases k1
      rw [h] at k5
      cases k5
      exact .inr (own_z o k6.ownO)
  · exact .inl h
mutual
theorem res_ok (r : ER2 K F w σ s) : ∀ (k : Nat) (sv : Sv) (d : PyData) (n : Nat) (f : Str) (v : V), resS b s.C k sv = some d → FV K w s.C.length n f v sv → R K (pubB b w σ s.ρ) v d
  | k, .dat d, d', n, f, v, h, q => by
    have h : some d = some d' := by cases k <;> exact h
    cases h
    cases q with
    | dat q => exact q.mono (pub_ex r)
  | k, .own d, d', n, f, v, h, q => by
    have h : (if b = true then some d else none) = some d' := by cases k <;> exact h
    split at h
    · rename_i hb
      cases h
      cases q with
      | own h1 h2 t => exact (t.mono (pub_ex r)).r (by rw [pub_at (.inr ⟨hb, .inl ⟨_, h1⟩⟩)]; exact h2)
    · cases h
  | k, .exc, d', n, f, v, h, q => by cases q
  | 0, .ref m, d', n, f, v, h, q => by cases h
  | k + 1, .ref m, d', n, f, v, h, q => by
    cases q with
    | ref hm =>
      unfold resS at h
      split at h
      · rename_i c hc
        obtain ⟨l, h1, h⟩ := Option.bind_eq_some_iff.mp h
        cases h
        obtain ⟨dx, fs, k1, k2, _, k3⟩ := r.st.cell m c hc
        obtain ⟨vs, q1, rfl⟩ := resF_ok r k c.fs l m fs h1 k3
        exact .ins (by rw [pub_at (.inl ⟨_, k1⟩)]; exact k2) q1
      · cases h
theorem resF_ok (r : ER2 K F w σ s) : ∀ (k : Nat) (gs : List (Str × Sv)) (l : List (PyData × PyData)) (n : Nat) (fs : List (Str × V)), resF (resS b s.C k) gs = some l → FVs K w s.C.length n fs gs → ∃ vs, RA K (pubB b w σ s.ρ) (fs.map (·.2)) vs ∧ l = insE fs vs
  | k, [], l, n, fs, h, q => by
    cases q
    cases h
    exact ⟨[], .nil, rfl⟩
  | k, (f, sv) :: gs, l, n, fs, h, q => by
    cases q with
    | cons q1 q2 =>
      obtain ⟨d, m', h1, h2, rfl⟩ := resF_cons h
      have r1 := res_ok r k sv d n f _ h1 q1
      obtain ⟨vs, r2, rfl⟩ := resF_ok r k gs m' n _ h2 q2
      exact ⟨d :: vs, .cons r1 r2, rfl⟩
end
/-- seen by what is pure, all standing still -/
theorem ER2.pub (r : ER2 K F w σ s) : ER K (pubB b w σ s.ρ) w.H (pubB b w σ s.ρ) w.H σ (pubEnv b s) := by
  have key : ∀ (i : Nat) (sl : Sl), (pubEnv b s)[i]? = some (some sl) → ∃ sv d, s.ρ[i]? = some (some sv) ∧ resS b s.C 4 sv = some d ∧ sl = .dat d := by
    intro i sl h
    unfold pubEnv at h
    rw [List.getElem?_map] at h
    cases e : s.ρ[i]? with
    | none => rw [e] at h; cases h
    | some x =>
      rw [e] at h
      cases x with
      | none => cases h
      | some sv =>
        have h : some ((resS b s.C 4 sv).map Sl.dat) = some (some sl) := h
        injection h with h
        cases z : resS b s.C 4 sv with
        | none => rw [z] at h; cases h
        | some d =>
          rw [z] at h
          cases h
          exact ⟨sv, d, rfl, z, rfl⟩
  refine ⟨.refl (pub_sub r), by unfold pubEnv; rw [List.length_map]; exact r.len, fun i d e => ?_, fun i d e => ?_, fun i j d e p h1 h2 => ?_⟩
  · obtain ⟨sv, d', h1, h2, h3⟩ := key i _ e
    cases h3
    cases sv with
    | dat d2 =>
      have h2 : some d2 = some d := h2
      cases h2
      obtain ⟨v, k1, k2⟩ := r.dat i _ h1
      exact ⟨v, k1, k2.mono (pub_ex r)⟩
    | own d2 =>
      obtain ⟨p, o, k1, k2, k3, k4, k5, k6⟩ := r.own i _ h1
      have h2 : (if b = true then some d2 else none) = some d := h2
      split at h2
      · rename_i hb
        cases h2
        exact ⟨_, k1, (k6.mono (pub_ex r)).r (by rw [pub_at (.inr ⟨hb, .inr ⟨i, _, h1, k1⟩⟩)]; exact k5)⟩
      · cases h2
    | exc => cases h2
    | ref n =>
      obtain ⟨k1, k2⟩ := r.rf i n h1
      exact ⟨_, k1, res_ok r 4 (.ref n) d 0 "" _ h2 (.ref k2)⟩
  · obtain ⟨sv, d', h1, h2, h3⟩ := key i _ e
    cases h3
  · obtain ⟨sv, d', k1, k2, k3⟩ := key i _ h1
    cases k3
end
/-! ### .. and back -/
mutual
def okD (b : Bool) : PyData → Bool
  | .none => true
  | .bool _ => true
  | .int _ => true
  | .str _ => true
  | .tuple xs => okDA b xs
  | .list xs => !b && okDA b xs
  | .dict _ => false
def okDA (b : Bool) : List PyData → Bool
  | [] => true
  | x :: xs => okD b x && okDA b xs
end
section
variable {K : PySem.W.Frag} {B B' : Hp} {b : Bool}
mutual
theorem R.okR (h : ∀ a o, B a = some o → B' a = some o ∨ OwnZ b o) : ∀ {v : V} {d : PyData}, R K B v d → okD b d = true → R K B' v d
  | _, _, .non, _ => .non
  | _, _, .bl b, _ => .bl b
  | _, _, .int i, _ => .int i
  | _, _, .str x, _ => .str x
  | _, _, .lst hs r, i => by
    rw [okD, Bool.and_eq_true] at i
    refine .lst ?_ (RA.okR h r i.2)
    refine (h _ _ hs).elim id fun z => ?_
    have z : b = true := z
    rw [z] at i
    cases i.1
  | _, _, .tup hs r, i => by
    refine .tup ?_ (RA.okR h r (by simpa [okD] using i))
    exact (h _ _ hs).elim id False.elim
  | _, _, .tupF _ _, i => by simp [okD] at i
  | _, _, .dK _ _, i => by simp [okD] at i
  | _, _, .dT _ _, i => by simp [okD] at i
  | _, _, .ins _ _, i => by simp [okD] at i
  | _, _, .scr _, i => by simp [okD] at i
  | _, _, .lk _ _, i => by simp [okD] at i
  | _, _, .lkK _ _, i => by simp [okD] at i
theorem RA.okR (h : ∀ a o, B a = some o → B' a = some o ∨ OwnZ b o) : ∀ {vs : List V} {ds : List PyData}, RA K B vs ds → okDA b ds = true → RA K B' vs ds
  | _, _, .nil, _ => .nil
  | _, _, .cons r q, i => by
    rw [okDA, Bool.and_eq_true] at i
    exact .cons (R.okR h r i.1) (RA.okR h q i.2)
end
end
def okSl (b : Bool) : Sl → Bool
  | .dat d => okD b d
  | .own (.list ds) => okDA b ds
  | .own _ => false
def pub (b : Bool) (f : Env → M Sl) : S2 → M2 Sv := fun s => match f (pubEnv b s) with
  | .stuck => .stuck
  | .exc x => .exc x s
  | .ok sl => if okSl b sl = true then .ok sl.sv s else .stuck
section
variable {X : Cx} {W : WX} {F : FrX X} {w : Wd} {σ : L2.St} {s : S2} {e a o : Expr} {es : List Expr} {pos : Pos}
theorem ER2.back {K : PySem.W.Frag} {b : Bool} {v : V} {sl : Sl} {B3 H3 : Hp} (r : ER2 K F w σ s) (g : Gr (pubB b w σ s.ρ) w.H B3 H3) (q : Res K w.H B3 H3 v sl) (ok : okSl b sl = true) : ∃ B', Gr w.B w.H B' H3 ∧ Res K w.H B' H3 v sl := by
  obtain ⟨B', g', n', e'⟩ := back_of2 (pub_ex r) (pub_sub r) (pub_kind r) g
  refine ⟨B', g', ?_⟩
  cases sl with
  | dat d => exact R.okR n' q ok
  | own d =>
    obtain ⟨p, o, h1, h2, h3, h4, h5⟩ := q
    refine ⟨p, o, h1, h2, by rw [e' p h2]; exact h3, h4, ?_⟩
    cases h5 with
    | lst ra => exact .lst (ra.okR n' ok)
    | dK ra => cases ok
    | dT ra => cases ok
theorem e2_pub (b : Bool) {E : XK} {f : Env → M Sl} (h : DE X E e f) : DE2 X (WC E) e (pub b f) := by
  intro F w σ s Q r q
  obtain ⟨t, p, h⟩ := h
  refine ⟨t, p, h _ _ _ _ _ _ _ (r.pub (b := b)) ?_⟩
  unfold pub at q
  cases z : f (pubEnv b s) with
  | stuck => rw [z] at q; exact q.elim
  | exc x =>
    rw [z] at q
    exact fun H' ex => q { w with B := w.B, H := H' } ⟨.refl _, fun _ _ => rfl⟩ (Nat.le_refl _) (r.grow ⟨.refl _, ex, r.st.s.trans ex, fun _ _ _ h => .inl h⟩)
  | ok sl =>
    rw [z] at q
    try simp only at q
    split at q
    · rename_i hi
      intro v B3 H3 g res
      obtain ⟨B', g', res'⟩ := r.back g res hi
      exact q v _ (.of_gr g') (Nat.le_refl _) (r.grow g') (r.vr g' res')
    · exact q.elim
/-! ### a slot's instance; operators; arguments; calls -/
def eRef (i : Nat) : S2 → M2 Sv := fun s => match s.ρ[i]? with
  | some (some (.ref n)) => .ok (.ref n) s
  | _ => .stuck
theorem e2_ref (i : Nat) (h : PE X e (tVar i)) : DE2 X W e (eRef i) := by
  intro F w σ s Q r q
  unfold eRef at q
  split at q
  · rename_i n hn
    obtain ⟨k1, k2⟩ := r.rf i n hn
    exact ⟨_, h, _, k1, q _ w (.refl _ _) (Nat.le_refl _) r ⟨rfl, k2⟩⟩
  · exact q.elim
/-! ### tests -/
/-! ### values by and, or, not, if -/
/-! ### arguments -/
def nil2 : S2 → M2 (List Sv) := fun s => .ok [] s
def cons2 (f : S2 → M2 Sv) (g : S2 → M2 (List Sv)) : S2 → M2 (List Sv) := fun s => (f s).bind fun x s1 => (g s1).bind fun xs s2 => .ok (x.arg :: xs) s2
theorem a2_nil : DA2 X W [] nil2 := fun F w σ s Q re q => ⟨_, pa_nil, q [] w (.refl _ _) (Nat.le_refl _) re .nil⟩
theorem a2_cons {f : S2 → M2 Sv} {g : S2 → M2 (List Sv)} (h : DE2 X W e f) (k : DA2 X W es g) (hs : starEach (e :: es) X.env = (false, eval e X.env) :: starEach es X.env := by rfl) : DA2 X W (e :: es) (cons2 f g) := by
  intro F w σ s Q re q
  refine ⟨_, pa_cons pe_w pa_w hs, ?_⟩
  refine run2a h re ?_
  rcases q.bind with ⟨x, s1, e1, q⟩ | z
  · refine .inl ⟨x, s1, e1, fun v w1 u1 l1 r1 q1 => ?_⟩
    have q := q.grow l1 u1
    refine k F w1 σ s1 _ r1 ?_
    cases z : g s1 with
    | stuck => rw [z] at q; exact q.elim
    | exc x s' => rw [z] at q; exact q
    | ok xs s2 =>
      rw [z, bind2_ok] at q
      exact fun vs w2 u2 l2 r2 q2 => q (v :: vs) w2 u2 l2 r2 (.cons (q1.mono l2 u2) q2)
  · exact .inr z
theorem cons2_len {f : S2 → M2 Sv} {g : S2 → M2 (List Sv)} {n : Nat} (h : ∀ s svs s', g s = .ok svs s' → svs.length = n) : ∀ s svs s', cons2 f g s = .ok svs s' → svs.length = n + 1 := by
  intro s svs s' e
  unfold cons2 at e
  cases q : f s with
  | stuck => rw [q] at e; cases e
  | exc x s1 => rw [q] at e; cases e
  | ok a s1 =>
    rw [q, bind2_ok] at e
    cases q2 : g s1 with
    | stuck => rw [q2] at e; cases e
    | exc x s2 => rw [q2] at e; cases e
    | ok l s2 =>
      rw [q2, bind2_ok] at e
      cases e
      rw [List.length_cons, h s1 l s' q2]
theorem nil2_len : ∀ s svs s', nil2 s = .ok svs s' → svs.length = 0 := by
  intro s svs s' e
  cases e
  rfl
end
end Dl
/-! The layer with objects that change: statements. -/
namespace Dl
open PySem PySem.Spec PyProof.Rows L2
inductive O2 where
  | stuck
  | exc (x : Str) (s : S2)
  | nx (s : S2)
  | rt (sv : Sv) (s : S2)
  | bk (s : S2)
  | ct (s : S2)
def SP2 (K : PySem.W.Frag) (F : Fr) (W : WX) (w : Wd) (L : Nat) (D : Ends) (o : O2) : Prop := match o with
  | .stuck => False
  | .exc x s' => ∀ w' σ', Up w L w' → L ≤ s'.C.length → ER2 K F w' σ' s' → W (.ref (He.ga K x)) none σ' w'.H
  | .nx s' => ∀ w' σ', Up w L w' → L ≤ s'.C.length → ER2 K F w' σ' s' → D.nx σ' w'.H
  | .bk s' => ∀ w' σ', Up w L w' → L ≤ s'.C.length → ER2 K F w' σ' s' → D.bk σ' w'.H
  | .ct s' => ∀ w' σ', Up w L w' → L ≤ s'.C.length → ER2 K F w' σ' s' → D.ct σ' w'.H
  | .rt sv s' => ∀ v w' σ', Up w L w' → L ≤ s'.C.length → ER2 K F w' σ' s' → VR K F w' σ' s' v sv → D.rt v w'.H
def DS2 (X : Cx) (W : WX) (st : Stmt) (f : S2 → O2) : Prop := ∀ (F : FrX X) w σ s D, ER2 X.K F w σ s → SP2 X.K F W w s.C.length D (f s) → wS X st D σ w.H
def DSs2 (X : Cx) (W : WX) (sts : List Stmt) (f : S2 → O2) : Prop := ∀ (F : FrX X) w σ s D, ER2 X.K F w σ s → SP2 X.K F W w s.C.length D (f s) → wSs X sts D σ w.H
def oOf2 {α : Type} (r : M2 α) (k : α → S2 → O2) : O2 := match r with
  | .stuck => .stuck
  | .exc x s => .exc x s
  | .ok a s => k a s
theorem oOf2_ok {α : Type} (a : α) (s : S2) (k : α → S2 → O2) : oOf2 (.ok a s) k = k a s := (Eq.refl (k a s)).trans (Eq.refl _)
section
variable {K : PySem.W.Frag} {F : Fr} {W : WX} {w w' : Wd} {σ : L2.St} {s : S2} {L : Nat} {D : Ends}
theorem SP2.grow {L' : Nat} {o : O2} (hl : L ≤ L') (u : Up w L w') (h : SP2 K F W w L D o) : SP2 K F W w' L' D o := by
  cases o with
  | stuck => exact h
  | exc x s' => exact fun w2 σ2 u2 l2 => h w2 σ2 (u.trans u2 hl) (Nat.le_trans hl l2)
  | nx s' => exact fun w2 σ2 u2 l2 => h w2 σ2 (u.trans u2 hl) (Nat.le_trans hl l2)
  | bk s' => exact fun w2 σ2 u2 l2 => h w2 σ2 (u.trans u2 hl) (Nat.le_trans hl l2)
  | ct s' => exact fun w2 σ2 u2 l2 => h w2 σ2 (u.trans u2 hl) (Nat.le_trans hl l2)
  | rt sv s' => exact fun v w2 σ2 u2 l2 => h v w2 σ2 (u.trans u2 hl) (Nat.le_trans hl l2)
theorem ep2_of {r : M2 Sv} {k : Sv → S2 → O2} {Q : VK} (h : SP2 K F W w L D (oOf2 r k))
    (hk : ∀ sv s', r = .ok sv s' → ∀ v w', Up w L w' → L ≤ s'.C.length → ER2 K F w' σ s' → VR K F w' σ s' v sv → SP2 K F W w' s'.C.length D (k sv s') → Q v w'.H) : EP2 K F W σ w L r Q := by
  cases r with
  | stuck => exact h.elim
  | exc x s' => exact fun w' u l r => h w' σ u l r
  | ok sv s' => exact fun v w' u l r q => hk sv s' rfl v w' u l r q (SP2.grow l u h)
theorem tp2_of {r : M2 Bool} {k : Bool → S2 → O2} {Q : Bool → Hp → Prop} (h : SP2 K F W w L D (oOf2 r k))
    (hk : ∀ b s', r = .ok b s' → ∀ w', Up w L w' → L ≤ s'.C.length → ER2 K F w' σ s' → SP2 K F W w' s'.C.length D (k b s') → Q b w'.H) : TP2 K F W σ w L r Q := by
  cases r with
  | stuck => exact h.elim
  | exc x s' => exact fun w' u l r => h w' σ u l r
  | ok sv s' => exact fun w' u l r => hk sv s' rfl w' u l r (SP2.grow l u h)
/-! ### slots -/
theorem ER2.put {v : V} {sv : Sv} {i : Nat} (r : ER2 K F w σ s) (q : VR K F w σ s v sv) : ER2 K F w (σ.set i (some v)) { s with ρ := s.ρ.set i (some sv) } := by
  have at_i : ∀ {sv' : Sv}, (s.ρ.set i (some sv))[i]? = some (some sv') → sv' = sv ∧ (σ.set i (some v))[i]? = some (some v) := by
    intro sv' e
    have hl : i < s.ρ.length := by
      have := (List.getElem?_eq_some_iff.mp e).1
      simpa using this
    rw [List.getElem?_set_self hl] at e
    cases e
    exact ⟨rfl, List.getElem?_set_self (by rw [r.len]; exact hl)⟩
  refine ⟨r.gr, r.ln, r.st, by show (σ.set i (some v)).length = (s.ρ.set i (some sv)).length; rw [List.length_set, List.length_set]; exact r.len, fun j d e => ?_, fun j d e => ?_, fun j e => ?_, fun j n e => ?_, fun j k d e p h1 h2 h3 h4 => ?_⟩
  · have e : (s.ρ.set i (some sv))[j]? = some (some (.dat d)) := e
    by_cases z : i = j
    · subst z
      obtain ⟨rfl, k⟩ := at_i e
      exact ⟨v, k, q⟩
    · rw [List.getElem?_set_ne z] at e ⊢
      exact r.dat j d e
  · have e : (s.ρ.set i (some sv))[j]? = some (some (.own d)) := e
    by_cases z : i = j
    · subst z
      obtain ⟨rfl, k⟩ := at_i e
      obtain ⟨p, o, rfl, h0, h1, h2, h3, h4, _⟩ := q
      exact ⟨p, o, k, h0, h1, h2, h3, h4⟩
    · rw [List.getElem?_set_ne z] at e ⊢
      exact r.own j d e
  · have e : (s.ρ.set i (some sv))[j]? = some (some .exc) := e
    by_cases z : i = j
    · subst z
      obtain ⟨rfl, k⟩ := at_i e
      exact (show False from q).elim
    · rw [List.getElem?_set_ne z] at e ⊢
      exact r.ex j e
  · have e : (s.ρ.set i (some sv))[j]? = some (some (.ref n)) := e
    by_cases z : i = j
    · subst z
      obtain ⟨rfl, k⟩ := at_i e
      obtain ⟨rfl, h⟩ := q
      exact ⟨k, h⟩
    · rw [List.getElem?_set_ne z] at e ⊢
      exact r.rf j n e
  · have h1 : (s.ρ.set i (some sv))[j]? = some (some (.own d)) := h1
    have h2 : (s.ρ.set i (some sv))[k]? = some (some (.own e)) := h2
    have key : ∀ (j k : Nat) d e, i = j → i ≠ k → (s.ρ.set i (some sv))[j]? = some (some (.own d)) → (s.ρ.set i (some sv))[k]? = some (some (.own e)) → (σ.set i (some v))[j]? = some (some (.ref p)) → (σ.set i (some v))[k]? = some (some (.ref p)) → False := by
      intro j k d e z1 z2 h1 h2 h3 h4
      subst z1
      obtain ⟨hs, k1⟩ := at_i h1
      subst hs
      rw [k1] at h3
      cases h3
      obtain ⟨p', o, hv, _, _, _, _, _, hs⟩ := q
      cases hv
      rw [List.getElem?_set_ne z2] at h2 h4
      exact hs k e h2 h4
    by_cases z1 : i = j
    · by_cases z2 : i = k
      · rw [← z1, ← z2]
      · exact (key j k d e z1 z2 h1 h2 h3 h4).elim
    · by_cases z2 : i = k
      · exact (key k j e d z2 z1 h2 h1 h4 h3).elim
      · rw [List.getElem?_set_ne z1] at h1 h3
        rw [List.getElem?_set_ne z2] at h2 h4
        exact r.sep j k d e p h1 h2 h3 h4
theorem ER2.drop {i : Nat} {o : Option V} (r : ER2 K F w σ s) : ER2 K F w (σ.set i o) { s with ρ := s.ρ.set i none } := by
  have ne : ∀ {j : Nat} {sv : Sv}, (s.ρ.set i none)[j]? = some (some sv) → i ≠ j := by
    intro j sv e z
    subst z
    have hl : i < s.ρ.length := by
      have := (List.getElem?_eq_some_iff.mp e).1
      simpa using this
    rw [List.getElem?_set_self hl] at e
    cases e
  refine ⟨r.gr, r.ln, r.st, by show (σ.set i o).length = (s.ρ.set i none).length; rw [List.length_set, List.length_set]; exact r.len, fun j d e => ?_, fun j d e => ?_, fun j e => ?_, fun j n e => ?_, fun j k d e p h1 h2 h3 h4 => ?_⟩
  · have e : (s.ρ.set i none)[j]? = some (some (.dat d)) := e
    have z := ne e
    rw [List.getElem?_set_ne z] at e ⊢
    exact r.dat j d e
  · have e : (s.ρ.set i none)[j]? = some (some (.own d)) := e
    have z := ne e
    rw [List.getElem?_set_ne z] at e ⊢
    exact r.own j d e
  · have e : (s.ρ.set i none)[j]? = some (some .exc) := e
    have z := ne e
    rw [List.getElem?_set_ne z] at e ⊢
    exact r.ex j e
  · have e : (s.ρ.set i none)[j]? = some (some (.ref n)) := e
    have z := ne e
    rw [List.getElem?_set_ne z] at e ⊢
    exact r.rf j n e
  · have h1 : (s.ρ.set i none)[j]? = some (some (.own d)) := h1
    have h2 : (s.ρ.set i none)[k]? = some (some (.own e)) := h2
    have z1 := ne h1
    have z2 := ne h2
    rw [List.getElem?_set_ne z1] at h1 h3
    rw [List.getElem?_set_ne z2] at h2 h4
    exact r.sep j k d e p h1 h2 h3 h4
/-- a slot's own thing is fixed -/
def fix2 (s : S2) (i : Nat) : S2 := match s.ρ[i]? with
  | some (some (.own d)) => { s with ρ := s.ρ.set i (some (.dat d)) }
  | _ => s
theorem ER2.fix {i : Nat} (r : ER2 K F w σ s) : ∃ w', Up w s.C.length w' ∧ w'.H = w.H ∧ (fix2 s i).C = s.C ∧ ER2 K F w' σ (fix2 s i) := by
  unfold fix2
  split
  · rename_i d e
    obtain ⟨p, o, h1, h2, h3, h4, h5, h6⟩ := r.own i d e
    have hl : i < s.ρ.length := (List.getElem?_eq_some_iff.mp e).1
    have r0 : ER2 K F w (σ.set i none) { s with ρ := s.ρ.set i none } := r.drop
    have q : VR K F w (σ.set i none) { s with ρ := s.ρ.set i none } (.ref p) (.own d) := by
      refine ⟨p, o, rfl, h2, h3, h4, h5, h6, fun j c e1 e2 => ?_⟩
      have e1 : (s.ρ.set i none)[j]? = some (some (.own c)) := e1
      by_cases z : i = j
      · subst z
        rw [List.getElem?_set_self hl] at e1
        cases e1
      · rw [List.getElem?_set_ne z] at e1 e2
        exact z (r.sep i j d c p e e1 h1 e2)
    obtain ⟨w', u, eh, em, r', q'⟩ := r0.fixV q rfl
    have r2 := r'.put (i := i) (sv := .dat d) q'
    refine ⟨w', u, eh, rfl, ?_⟩
    have e1 : (σ.set i none).set i (some (V.ref p)) = σ := by
      rw [List.set_set]
      refine List.ext_getElem? fun j => ?_
      by_cases z : i = j
      · subst z
        rw [List.getElem?_set_self (by rw [r.len]; exact hl), h1]
      · rw [List.getElem?_set_ne z]
    have e2 : (s.ρ.set i none).set i (some (Sv.dat d)) = s.ρ.set i (some (.dat d)) := by rw [List.set_set]
    have r2 : ER2 K F w' ((σ.set i none).set i (some (V.ref p))) { s with ρ := (s.ρ.set i none).set i (some (Sv.dat d)) } := r2
    rw [e1, e2] at r2
    exact r2
  · exact ⟨w, .refl _ _, rfl, rfl, r⟩
/-! ### what is owned is changed -/
theorem ER2.touch (r : ER2 K F w σ s) {a : Addr} {k : Owner} {o : HO} (ha : w.Ω a = some k) (hk : OwnK k o) {C' : Store} (hl : C'.length = s.C.length)
    (hc : ∀ m c, C'[m]? = some c → ∃ dx fs, w.Ω (w.μ m) = some (.cell m) ∧ upd w.H a o (w.μ m) = some (.ins (He.ga K c.cls) dx fs) ∧ (c.fs.map (·.1)).Nodup ∧ FVs K { w with H := upd w.H a o } C'.length m fs c.fs) : ER2 K F { w with H := upd w.H a o } σ { s with C := C' } := by
  have old : ∀ b u, w.H b = some u → w.Ω b = none → upd w.H a o b = some u := fun b u h n => by
    rw [upd_ne fun z => by rw [z, ha] at n; cases n]
    exact h
  refine ⟨⟨r.gr.b, fun b u h n => old b u (r.gr.h b u h n) (r.gr.o b u h n), r.gr.l, r.gr.o, fun b u h => ?_, r.gr.m⟩, by show F.L ≤ C'.length; rw [hl]; exact r.ln, ⟨fun b u h => ?_, hc, r.st.out, fun b u h => ?_⟩, r.len, r.dat, fun i d e => ?_, r.ex, fun i n e => ?_, r.sep⟩
  · obtain ⟨u', h'⟩ := r.gr.k b u h
    by_cases z : b = a
    · exact ⟨o, by show upd w.H a o b = _; rw [z, upd_same]⟩
    · exact ⟨u', by show upd w.H a o b = _; rw [upd_ne z]; exact h'⟩
  · have h : w.B b = some u := h
    show upd w.H a o b = some u
    rw [upd_ne fun z => by rw [z, r.st.out a k ha] at h; cases h]
    exact r.st.s b u h
  · obtain ⟨u', h', z'⟩ := r.st.has b u h
    by_cases z : b = a
    · subst z
      have h : w.Ω b = some u := h
      rw [ha] at h
      cases h
      exact ⟨o, upd_same, hk⟩
    · exact ⟨u', by show upd w.H a o b = _; rw [upd_ne z]; exact h', z'⟩
  · obtain ⟨p, u, h1, h2, h3, h4, h5, h6⟩ := r.own i d e
    exact ⟨p, u, h1, h2, h3, h4, old p u h5 h4, h6⟩
  · obtain ⟨h1, h2⟩ := r.rf i n e
    exact ⟨h1, by show n < C'.length; rw [hl]; exact h2⟩
/-- a thing that is nobody's becomes a field's -/
theorem ER2.take {p : Addr} {o : HO} {d : PyData} (n : Nat) (f : Str) (r : ER2 K F w σ s) (q : VR K F w σ s (.ref p) (.own d)) (hp : w.H p = some o) : ER2 K F { w with Ω := fun a => if a = p then some (.fld n f) else w.Ω a } σ s := by
  obtain ⟨p', o', e, h0, hb, ho, hp', t, hs⟩ := q
  cases e
  rw [hp] at hp'
  cases hp'
  have ne : ∀ a, a ≠ p → (if a = p then some (Owner.fld n f) else w.Ω a) = w.Ω a := fun a z => by rw [if_neg z]
  refine ⟨⟨r.gr.b, r.gr.h, r.gr.l, fun a u h z => ?_, r.gr.k, r.gr.m⟩, r.ln, ⟨r.st.s, fun m c e => ?_, fun a u h => ?_, fun a u h => ?_⟩, r.len, r.dat, fun i c e => ?_, r.ex, r.rf, r.sep⟩
  · show (if a = p then some (Owner.fld n f) else w.Ω a) = none
    rw [ne a (ne_of_none h h0)]
    exact r.gr.o a u h z
  · obtain ⟨dx, fs, h1, h2, h3, h4⟩ := r.st.cell m c e
    refine ⟨dx, fs, ?_, h2, h3, FVs.mono (w := w) (Nat.le_refl _) (Ex.refl w.B) (fun _ _ => rfl) (h := h4) fun p2 f2 o2 q1 q2 => ⟨?_, q2⟩⟩
    · show (if w.μ m = p then some (Owner.fld n f) else w.Ω (w.μ m)) = _
      rw [ne _ fun z => by rw [z, ho] at h1; cases h1]
      exact h1
    · show (if p2 = p then some (Owner.fld n f) else w.Ω p2) = _
      rw [ne _ fun z => by rw [z, ho] at q1; cases q1]
      exact q1
  · have h : (if a = p then some (Owner.fld n f) else w.Ω a) = some u := h
    by_cases z : a = p
    · rw [z]
      exact hb
    · rw [if_neg z] at h
      exact r.st.out a u h
  · have h : (if a = p then some (Owner.fld n f) else w.Ω a) = some u := h
    by_cases z : a = p
    · subst z
      rw [if_pos rfl] at h
      cases h
      exact ⟨o, hp, t.ownO⟩
    · rw [if_neg z] at h
      exact r.st.has a u h
  · obtain ⟨p2, o2, k1, k2, k3, k4, k5, k6⟩ := r.own i c e
    refine ⟨p2, o2, k1, k2, k3, ?_, k5, k6⟩
    show (if p2 = p then some (Owner.fld n f) else w.Ω p2) = none
    rw [ne _ fun z => hs i c e (by rw [k1, z])]
    exact k4
theorem ER2.fv {v : V} {sv : Sv} (n : Nat) (f : Str) (r : ER2 K F w σ s) (q : VR K F w σ s v sv) : ∃ w1, Up w s.C.length w1 ∧ w1.H = w.H ∧ w1.μ = w.μ ∧ w1.B = w.B ∧ (∀ a k, w.Ω a = some k → w1.Ω a = some k) ∧ ER2 K F w1 σ s ∧ FV K w1 s.C.length n f v sv := by
  cases sv with
  | dat d => exact ⟨w, .refl _ _, rfl, rfl, rfl, fun _ _ h => h, r, .dat q⟩
  | ref m =>
    obtain ⟨rfl, h⟩ := q
    exact ⟨w, .refl _ _, rfl, rfl, rfl, fun _ _ h => h, r, .ref h⟩
  | exc => exact (show False from q).elim
  | own d =>
    have q0 := q
    obtain ⟨p, o, rfl, h0, hb, ho, hp, t, hs⟩ := q
    refine ⟨{ w with Ω := fun a => if a = p then some (.fld n f) else w.Ω a }, ⟨.refl _, fun _ _ => rfl⟩, rfl, rfl, rfl, fun a k h => ?_, r.take n f q0 hp, .own (o := o) ?_ hp t⟩
    · show (if a = p then some (Owner.fld n f) else w.Ω a) = some k
      rw [if_neg fun z => by rw [z, ho] at h; cases h]
      exact h
    · show (if p = p then some (Owner.fld n f) else w.Ω p) = _
      rw [if_pos rfl]
/-! ### fields -/
def putS (f : Str) (v : Sv) : List (Str × Sv) → List (Str × Sv)
  | [] => [(f, v)]
  | (g, u) :: l => if g = f then (g, v) :: l else (g, u) :: putS f v l
theorem putS_keys {f : Str} {v : Sv} : ∀ {l : List (Str × Sv)}, (l.map (·.1)).Nodup → ((putS f v l).map (·.1)).Nodup ∧ ∀ x, x ∈ (putS f v l).map (·.1) → x = f ∨ x ∈ l.map (·.1)
  | [], _ => ⟨by simp [putS], fun x h => by simp [putS] at h; exact .inl h⟩
  | (g, u) :: l, h => by
    rw [List.map_cons, List.nodup_cons] at h
    obtain ⟨h1, h2⟩ := h
    unfold putS
    by_cases z : g = f
    · rw [if_pos z]
      exact ⟨by rw [List.map_cons, List.nodup_cons]; exact ⟨h1, h2⟩, fun x h => .inr h⟩
    · rw [if_neg z]
      obtain ⟨k1, k2⟩ := putS_keys (f := f) (v := v) h2
      refine ⟨?_, fun x h => ?_⟩
      · rw [List.map_cons, List.nodup_cons]
        exact ⟨fun m => (k2 _ m).elim (fun e => z e) h1, k1⟩
      · rw [List.map_cons, List.mem_cons] at h
        rcases h with h | h
        · exact .inr (by rw [List.map_cons, List.mem_cons]; exact .inl h)
        · rcases k2 x h with h | h
          · exact .inl h
          · exact .inr (by rw [List.map_cons, List.mem_cons]; exact .inr h)
theorem FVs.put {n : Nat} {f : Str} {v : V} {sv : Sv} {fs : List (Str × V)} {gs : List (Str × Sv)} (h : FVs K w L n fs gs) (q : FV K w L n f v sv) : FVs K w L n (putF f v fs) (putS f sv gs) := by
  induction h with
  | nil => exact .cons q .nil
  | cons h t ih =>
    rename_i g u su fs gs
    unfold putF putS
    by_cases z : g = f
    · subst z
      rw [if_pos rfl, if_pos rfl]
      exact .cons q t
    · rw [if_neg z, if_neg z]
      exact .cons h ih
theorem FVs.length {n : Nat} {fs : List (Str × V)} {gs : List (Str × Sv)} (h : FVs K w L n fs gs) : fs.length = gs.length := by
  induction h with
  | nil => rfl
  | cons _ _ ih => rw [List.length_cons, List.length_cons, ih]
theorem FVs.get {n : Nat} {f : Str} {sv : Sv} {fs : List (Str × V)} {gs : List (Str × Sv)} (h : FVs K w L n fs gs) (e : gs.lookup f = some sv) : ∃ v, fs.lookup f = some v ∧ FV K w L n f v sv := by
  induction h with
  | nil => cases e
  | cons h t ih =>
    rename_i g u su fs gs
    by_cases z : f = g
    · subst z
      rw [List.lookup_cons_self] at e ⊢
      cases e
      exact ⟨_, rfl, h⟩
    · have : (f == g) = false := by simpa using z
      have e1 : List.lookup f ((g, su) :: gs) = List.lookup f gs := by simp [List.lookup, this]
      have e2 : List.lookup f ((g, u) :: fs) = List.lookup f fs := by simp [List.lookup, this]
      rw [e1] at e
      rw [e2]
      exact ih e
theorem FVs.none {n : Nat} {f : Str} {fs : List (Str × V)} {gs : List (Str × Sv)} (h : FVs K w L n fs gs) (e : gs.lookup f = none) : fs.lookup f = none := by
  induction h with
  | nil => rfl
  | cons h t ih =>
    rename_i g u su fs gs
    by_cases z : f = g
    · subst z
      rw [List.lookup_cons_self] at e
      cases e
    · have : (f == g) = false := by simpa using z
      have e1 : List.lookup f ((g, su) :: gs) = List.lookup f gs := by simp [List.lookup, this]
      have e2 : List.lookup f ((g, u) :: fs) = List.lookup f fs := by simp [List.lookup, this]
      rw [e1] at e
      rw [e2]
      exact ih e
def setC (C : Store) (n : Nat) (c : Cell) (f : Str) (sv : Sv) : Store := C.set n ⟨c.cls, putS f sv c.fs⟩
/-- a field of the cell n is stored -/
theorem ER2.setF {v : V} {sv : Sv} {n : Nat} {c : Cell} {f : Str} {dx : Addr} {fs : List (Str × V)} (r : ER2 K F w σ s) (q : VR K F w σ s v sv) (hc : s.C[n]? = some c) (hh : w.H (w.μ n) = some (.ins (He.ga K c.cls) dx fs)) :
    ∃ w', Up w s.C.length w' ∧ w'.H = upd w.H (w.μ n) (.ins (He.ga K c.cls) dx (putF f v fs)) ∧ ER2 K F w' σ { s with C := setC s.C n c f sv } := by
  obtain ⟨w1, u1, e1, e2, e3, e4, r1, q1⟩ := r.fv n f q
  have hn : n < s.C.length := (List.getElem?_eq_some_iff.mp hc).1
  obtain ⟨dx', fs', k1, k2, k3, k4⟩ := r1.st.cell n c hc
  rw [e1, e2, hh] at k2
  cases k2
  refine ⟨{ w1 with H := upd w1.H (w1.μ n) (.ins (He.ga K c.cls) dx (putF f v fs)) }, ⟨u1.b, u1.m⟩, by show upd w1.H (w1.μ n) _ = _; rw [e1, e2], r1.touch k1 (by trivial) (by unfold setC; rw [List.length_set]) fun m c' hm => ?_⟩
  have keep : ∀ (m' : Nat) (as : List (Str × V)) (gs : List (Str × Sv)), FVs K w1 s.C.length m' as gs → FVs K { w1 with H := upd w1.H (w1.μ n) (.ins (He.ga K c.cls) dx (putF f v fs)) } (setC s.C n c f sv).length m' as gs := fun m' as gs h =>
    FVs.mono (w := w1) (by unfold setC; rw [List.length_set]; exact Nat.le_refl _) (Ex.refl w1.B) (fun _ _ => rfl) (h := h) fun p g o q1 q2 => ⟨q1, by show upd w1.H (w1.μ n) _ p = _; rw [upd_ne fun z => by rw [z, k1] at q1; cases q1]; exact q2⟩
  unfold setC at hm
  by_cases z : n = m
  · subst z
    rw [List.getElem?_set_self hn] at hm
    cases hm
    refine ⟨dx, _, k1, upd_same, (putS_keys k3).1, keep n _ _ (k4.put q1)⟩
  · rw [List.getElem?_set_ne z] at hm
    obtain ⟨dx2, fs2, j1, j2, j3, j4⟩ := r1.st.cell m c' hm
    exact ⟨dx2, fs2, j1, by rw [upd_ne fun e => by rw [e, k1] at j1; cases j1; exact z rfl]; exact j2, j3, keep m _ _ j4⟩
end
end Dl
/-! The layer with objects that change: the rules of statements. -/
namespace Dl
open PySem PySem.Spec PyProof.Rows L2
section
variable {K : PySem.W.Frag} {F : Fr} {W : WX} {w w' : Wd} {σ : L2.St} {s : S2} {L : Nat} {D : Ends}
/-! ### one's own lists and dicts change -/
/-- the own list of a slot -/
theorem ER2.ownPut {i : Nat} {d d' : PyData} {p : Addr} {o' : HO} (r : ER2 K F w σ s) (hi : s.ρ[i]? = some (some (.own d))) (hs : σ[i]? = some (some (.ref p))) (t : Top K w.B o' d') :
    ER2 K F { w with H := upd w.H p o' } σ { s with ρ := s.ρ.set i (some (.own d')) } := by
  have hl : i < s.ρ.length := (List.getElem?_eq_some_iff.mp hi).1
  obtain ⟨p', o, k1, k2, k3, k4, k5, k6⟩ := r.own i d hi
  rw [hs] at k1
  cases k1
  have old : ∀ a u, a ≠ p → w.H a = some u → upd w.H p o' a = some u := fun a u n h => by rw [upd_ne n]; exact h
  have at_i : ∀ {j : Nat} {sv : Sv}, (s.ρ.set i (some (.own d')))[j]? = some (some sv) → (i = j ∧ sv = .own d') ∨ (i ≠ j ∧ s.ρ[j]? = some (some sv)) := by
    intro j sv e
    by_cases z : i = j
    · subst z
      rw [List.getElem?_set_self hl] at e
      cases e
      exact .inl ⟨rfl, rfl⟩
    · rw [List.getElem?_set_ne z] at e
      exact .inr ⟨z, e⟩
  refine ⟨⟨r.gr.b, fun a u h n => old a u (ne_of_none h k2) (r.gr.h a u h n), r.gr.l, r.gr.o, fun a u h => ?_, r.gr.m⟩, r.ln, ⟨fun a u h => ?_, fun m c e => ?_, r.st.out, fun a u h => ?_⟩, by show σ.length = (s.ρ.set i (some (.own d'))).length; rw [List.length_set]; exact r.len, fun j c e => ?_, fun j c e => ?_, fun j e => ?_, fun j m e => ?_, fun j k c c' q e1 e2 e3 e4 => ?_⟩
  · obtain ⟨u', h'⟩ := r.gr.k a u h
    exact ⟨u', old a u' (ne_of_none h k2) h'⟩
  · have h : w.B a = some u := h
    exact old a u (ne_of_none h k3) (r.st.s a u h)
  · obtain ⟨dx, fs, h1, h2, h3, h4⟩ := r.st.cell m c e
    have ne : ∀ a k, w.Ω a = some k → a ≠ p := fun a k h z => by rw [z, k4] at h; cases h
    exact ⟨dx, fs, h1, old _ _ (ne _ _ h1) h2, h3, FVs.mono (w := w) (Nat.le_refl _) (Ex.refl w.B) (fun _ _ => rfl) (h := h4) fun p2 f2 o2 q1 q2 => ⟨q1, old _ _ (ne _ _ q1) q2⟩⟩
  · have h : w.Ω a = some u := h
    obtain ⟨u', h', z⟩ := r.st.has a u h
    exact ⟨u', old a u' (fun z => by rw [z, k4] at h; cases h) h', z⟩
  · have e : (s.ρ.set i (some (.own d')))[j]? = some (some (.dat c)) := e
    rcases at_i e with ⟨_, z⟩ | ⟨_, z⟩
    · cases z
    · exact r.dat j c z
  · have e : (s.ρ.set i (some (.own d')))[j]? = some (some (.own c)) := e
    rcases at_i e with ⟨z1, z2⟩ | ⟨z1, z2⟩
    · subst z1
      cases z2
      exact ⟨p, o', hs, k2, k3, k4, upd_same, t⟩
    · obtain ⟨p2, o2, j1, j2, j3, j4, j5, j6⟩ := r.own j c z2
      exact ⟨p2, o2, j1, j2, j3, j4, old p2 o2 (fun zz => z1 (r.sep i j d c p hi z2 hs (by rw [← zz]; exact j1))) j5, j6⟩
  · have e : (s.ρ.set i (some (.own d')))[j]? = some (some .exc) := e
    rcases at_i e with ⟨_, z⟩ | ⟨_, z⟩
    · cases z
    · exact r.ex j z
  · have e : (s.ρ.set i (some (.own d')))[j]? = some (some (.ref m)) := e
    rcases at_i e with ⟨_, z⟩ | ⟨_, z⟩
    · cases z
    · exact r.rf j m z
  · have e1 : (s.ρ.set i (some (.own d')))[j]? = some (some (.own c)) := e1
    have e2 : (s.ρ.set i (some (.own d')))[k]? = some (some (.own c')) := e2
    have key : ∀ {j : Nat} {c}, (s.ρ.set i (some (.own d')))[j]? = some (some (.own c)) → ∃ c2, s.ρ[j]? = some (some (.own c2)) := by
      intro j c e
      rcases at_i e with ⟨z1, z2⟩ | ⟨z1, z2⟩
      · subst z1
        exact ⟨d, hi⟩
      · exact ⟨c, z2⟩
    obtain ⟨c1, f1⟩ := key e1
    obtain ⟨c2, f2⟩ := key e2
    exact r.sep j k c1 c2 q f1 f2 e3 e4
end
/-! ### expressions that change nothing that stands -/
def DE1 (X : Cx) (W : WX) (e : Expr) (f : S2 → M Sl) : Prop := ∀ (F : FrX X) w σ s Q, ER2 X.K F w σ s → EPost X.K (WE W σ) w.B w.H (f s) Q → wE X e σ w.H Q
def DA1 (X : Cx) (W : WX) (es : List Expr) (f : S2 → M (List PyData)) : Prop := ∀ (F : FrX X) w σ s Q, ER2 X.K F w σ s → APost X.K (WE W σ) w.B w.H (f s) Q → wA X es σ w.H Q
section
variable {X : Cx} {W : WX} {F : FrX X} {w : Wd} {σ : L2.St} {s : S2} {e a o : Expr} {es : List Expr} {pos : Pos} {E : XK}
theorem e1_lift {f : Env → M Sl} (h : DE X E e f) : DE1 X (WC E) e (fun s => f (hide s.ρ)) := fun F w σ s Q r q => let ⟨t, p, h⟩ := h; ⟨t, p, h _ _ _ _ _ _ _ r.pure q⟩
theorem run1 {f : S2 → M Sl} (h : DE1 X W e f) {Q : VK} (r : ER2 X.K F w σ s) (hf : (∃ sl, f s = .ok sl ∧ ∀ v B' H', Gr w.B w.H B' H' → R X.K B' v sl.d → Q v H') ∨ ∃ x, f s = .exc x ∧ ∀ H', Ex w.H H' → W (.ref (He.ga X.K x)) none σ H') : wE X e σ w.H Q := by
  rcases hf with ⟨sl, e1, k⟩ | ⟨x, e1, k⟩
  · refine h F w σ s Q r ?_
    rw [e1]
    intro v B' H' g q
    obtain ⟨B2, g2, r2⟩ := q.fix g
    exact k v B2 H' g2 r2
  · refine h F w σ s Q r ?_
    rw [e1]
    exact k
def nil1 : S2 → M (List PyData) := fun _ => .ok []
def cons1 (f : S2 → M Sl) (g : S2 → M (List PyData)) : S2 → M (List PyData) := fun s => (f s).bind fun x => (g s).bind fun ds => .ok (x.d :: ds)
theorem a1_nil : DA1 X W [] nil1 := fun F w σ s Q r q => ⟨_, pa_nil, q [] w.B w.H (.refl r.st.s) .nil⟩
theorem a1_cons {f : S2 → M Sl} {g : S2 → M (List PyData)} (h : DE1 X W e f) (k : DA1 X W es g) (hs : starEach (e :: es) X.env = (false, eval e X.env) :: starEach es X.env := by rfl) : DA1 X W (e :: es) (cons1 f g) := by
  intro F w σ s Q r q
  refine ⟨_, pa_cons pe_w pa_w hs, ?_⟩
  refine run1 h r ?_
  rcases q.bind with ⟨x, e1, q⟩ | ⟨x, e1, q⟩
  · refine .inl ⟨x, e1, fun v B1 H1 g1 r1 => ?_⟩
    refine k F { w with B := B1, H := H1 } σ s _ (r.grow g1) ?_
    have q := APost.grow g1 q
    cases z : g s with
    | stuck => rw [z] at q; exact q.elim
    | exc x => rw [z] at q; exact q
    | ok ds =>
      rw [z] at q
      exact fun vs B2 H2 g2 r2 => q (v :: vs) B2 H2 g2 (.cons (r1.mono g2.b) r2)
  · exact .inr ⟨x, e1, q⟩
/-- a value is fixed -/
def fz2 (f : S2 → M2 Sv) : S2 → M2 Sv := fun s => (f s).bind fun sv s1 => .ok sv.arg s1
theorem e2_fz {f : S2 → M2 Sv} (h : DE2 X W e f) : DE2 X W e (fz2 f) := by
  intro F w σ s Q re q
  refine run2 h re ?_
  rcases q.bind with ⟨sv, s1, e1, q⟩ | z
  · refine .inl ⟨sv, s1, e1, fun v w1 u1 l1 r1 q1 => ?_⟩
    have q := EP2.grow l1 u1 q
    cases sv with
    | dat d => exact q v w1 (.refl _ _) (Nat.le_refl _) r1 q1
    | ref n => exact q v w1 (.refl _ _) (Nat.le_refl _) r1 q1
    | exc => exact q v w1 (.refl _ _) (Nat.le_refl _) r1 q1
    | own d =>
      obtain ⟨w2, u2, eh, em, r2, q2⟩ := r1.fixV q1 rfl
      rw [← eh]
      exact q v w2 u2 (Nat.le_refl _) r2 q2
  · exact .inr z
/-! ### methods of one's own lists: a slot's, a field's -/
def mutS2 (i : Nat) (g : List PyData → List PyData → Option (List PyData × PyData)) (f : S2 → M (List PyData)) : S2 → M2 Sv := fun s => match s.ρ[i]? with
  | some (some (.own (.list l))) => (match f s with
    | .ok ds => (match g l ds with
      | some (l', d) => .ok (.dat d) { s with ρ := s.ρ.set i (some (.own (.list l'))) }
      | none => .stuck)
    | .exc x => .exc x s
    | .stuck => .stuck)
  | _ => .stuck
theorem runM2 {i : Nat} {r : V → List V → Hp → VK → Prop} {g : List PyData → List PyData → Option (List PyData × PyData)} {f : S2 → M (List PyData)} {t : TA} (hg : MutU X r g)
    (ha : ∀ (F : FrX X) w σ s Q, ER2 X.K F w σ s → APost X.K (WE W σ) w.B w.H (f s) Q → t σ w.H Q) {Q : VK} (re : ER2 X.K F w σ s) (q : EP2 X.K F W σ w s.C.length (mutS2 i g f s) Q) : tBM X.K "list" r (tVar i) t σ w.H Q := by
  unfold mutS2 at q
  split at q
  · rename_i l hi
    obtain ⟨p, u, k1, k2, k3, k4, k5, k6⟩ := re.own i _ hi
    cases k6 with
    | lst rl =>
      rename_i vs
      refine ⟨_, k1, .inl ⟨rfl, vs, SqL.of k5⟩, ha F w σ s _ re ?_⟩
      cases z : f s with
      | stuck => rw [z] at q; exact q.elim
      | exc x =>
        rw [z] at q
        exact fun H' ex => q { w with B := w.B, H := H' } ⟨.refl _, fun _ _ => rfl⟩ (Nat.le_refl _) (re.grow ⟨.refl _, ex, re.st.s.trans ex, fun _ _ _ h => .inl h⟩)
      | ok ds =>
        rw [z] at q
        intro xs B1 H1 g1 ra
        simp only at q
        split at q
        · rename_i l' d hgd
          refine hg p vs l xs ds l' d B1 H1 Q (g1.h p _ k5) g1.s (rl.mono g1.b) ra hgd fun vs' y rv ry => ?_
          exact q y { w with B := B1, H := upd H1 p (.lst vs') } ⟨g1.b, fun _ _ => rfl⟩ (Nat.le_refl _) ((re.grow g1).ownPut hi k1 (.lst rv)) ry
        · exact q.elim
  · exact q.elim
theorem e2_mutS {i : Nat} {name : Str} {r : V → List V → Hp → VK → Prop} {g : List PyData → List PyData → Option (List PyData × PyData)} {f : S2 → M (List PyData)} {apos : Pos} (hg : MutU X r g) (ha : DA1 X W (e :: es) f)
    (hpe : ∀ t, PA X (e :: es) t → PE X (.Call (.Attribute o name apos) (e :: es) [] pos) (tBM X.K "list" r (tVar i) t)) : DE2 X W (.Call (.Attribute o name apos) (e :: es) [] pos) (mutS2 i g f) :=
  fun _ _ _ _ _ re q => ⟨_, hpe _ pa_w, runM2 hg ha re q⟩
/-- o.f, an instance -/
def fldRef (i : Nat) (x f : Str) : S2 → M2 Sv := fun s => match s.ρ[i]? with
  | some (some (.ref n)) => (match s.C[n]? with
    | some c => if c.cls = x then (match c.fs.lookup f with
      | some (.ref m) => .ok (.ref m) s
      | _ => .stuck) else .stuck
    | none => .stuck)
  | _ => .stuck
theorem e2_fldRef {i : Nat} {x f : Str} (hc : Cls X.K (He.ga X.K x)) (hn : NoAttr X.K (He.ga X.K x) f) (h : PE X a (tVar i)) (hb : attributeBase a f X.env (eval a X.env) = eval a X.env := by rfl) : DE2 X W (.Attribute a f pos) (fldRef i x f) := by
  intro F w σ s Q re q
  refine ⟨_, pe_fld h hb, ?_⟩
  unfold fldRef at q
  split at q
  · rename_i n hi
    obtain ⟨i1, i2⟩ := re.rf i n hi
    split at q
    · rename_i c hcn
      split at q
      · rename_i hx
        subst hx
        split at q
        · rename_i m hf
          obtain ⟨dx, fs, c1, c2, c3, c4⟩ := re.st.cell n c hcn
          obtain ⟨v, v1, v2⟩ := c4.get hf
          cases v2 with
          | ref hm => exact ⟨_, i1, _, _, dx, fs, _, rfl, c2, hc, hn, v1, q _ w (.refl _ _) (Nat.le_refl _) re ⟨rfl, hm⟩⟩
        · exact q.elim
      · exact q.elim
    · exact q.elim
  · exact q.elim
end
end Dl
/-! The layer with objects that change: the rules of statements, loops, try. -/
namespace Dl
open PySem PySem.Spec PyProof.Rows L2
section
variable {X : Cx} {W : WX} {F : FrX X} {w : Wd} {σ : L2.St} {s : S2} {e a o : Expr} {es : List Expr} {pos : Pos} {st : Stmt} {rest : List Stmt} {f : S2 → M2 Sv} {g h : S2 → O2}
def o2Set (i : Nat) (f : S2 → M2 Sv) : S2 → O2 := fun s => oOf2 (f s) fun sv s1 => .nx { s1 with ρ := s1.ρ.set i (some sv) }
theorem s2_set {i : Nat} {x : Str} {pos' : Pos} (hN : X.N.Nodup) (hi : X.N[i]? = some x) (hx : Loc X.env.scope x) (h : DE2 X W e f) (hs : swapsWith e (some (.Name x pos')) pos.line X.env = pure false := by rfl) (hf : X.fn x = true ∨ X.env.scope.names.lookup x = some .local := by first | exact .inl rfl | exact .inr rfl | assumption) :
    DS2 X W (.Assign [.Name x pos'] e pos) (o2Set i f) := fun F w σ s D re q =>
  ⟨_, ps_set hN hi hx pe_w hs hf, h F w σ s _ re (ep2_of q fun sv s1 _ v w1 u1 l1 r1 q1 q => q w1 _ (.refl _ _) (Nat.le_refl _) (r1.put q1))⟩
def o2Fld (x : Str) (i : Nat) (n : Str) (f : S2 → M2 Sv) : S2 → O2 := fun s => oOf2 (f s) fun sv s1 => match s1.ρ[i]? with
  | some (some (.ref k)) => (match s1.C[k]? with
    | some c => if c.cls = x ∧ c.fs.length < 1000 then .nx { s1 with C := setC s1.C k c n sv } else .stuck
    | none => .stuck)
  | _ => .stuck
theorem s2_fld {x n : Str} {i : Nat} {pos' : Pos} (hc : Cls X.K (He.ga X.K x)) (hn : NoAttr X.K (He.ga X.K x) n) (ho : PE X o (tVar i)) (h : DE2 X W e f) (hs : swapsWith e (some (.Attribute o n pos')) pos.line X.env = pure false := by rfl) : DS2 X W (.Assign [.Attribute o n pos'] e pos) (o2Fld x i n f) := by
  intro F w σ s D re q0
  refine ⟨_, ps_fld ho pe_w hs, h F w σ s _ re (ep2_of q0 fun sv s1 _ v w1 u1 l1 r1 q1 q => ?_)⟩
  split at q
  · rename_i k hk
    obtain ⟨k1, k2⟩ := r1.rf i k hk
    split at q
    · rename_i c hck
      split at q
      · rename_i hx
        obtain ⟨hx, hl⟩ := hx
        subst hx
        obtain ⟨dx, fs, c1, c2, c3, c4⟩ := r1.st.cell k c hck
        obtain ⟨w2, u2, e2, r2⟩ := r1.setF (f := n) q1 hck c2
        refine ⟨_, k1, _, _, dx, fs, rfl, c2, hc, hn, by rw [c4.length]; exact hl, ?_⟩
        rw [← e2]
        exact q w2 σ u2 (by show s1.C.length ≤ (setC s1.C k c n sv).length; unfold setC; rw [List.length_set]; exact Nat.le_refl _) r2
      · exact q.elim
    · exact q.elim
  · exact q.elim
def o2Exp (f : S2 → M2 Sv) : S2 → O2 := fun s => oOf2 (f s) fun _ s1 => .nx s1
theorem s2_expr (h : DE2 X W e f) (hs : swapsWith e none pos.line X.env = pure false := by rfl) : DS2 X W (.Expr e pos) (o2Exp f) := fun F w σ s D re q =>
  ⟨_, ps_expr pe_w hs, h F w σ s _ re (ep2_of q fun sv s1 _ v w1 u1 l1 r1 q1 q => q w1 σ (.refl _ _) (Nat.le_refl _) r1)⟩
def o2Ret (f : S2 → M2 Sv) : S2 → O2 := fun s => oOf2 (f s) .rt
theorem s2_ret (h : DE2 X W e f) : DS2 X W (.Return (some e) pos) (o2Ret f) := fun F w σ s D re q =>
  ⟨_, ps_ret pe_w, h F w σ s _ re (ep2_of q fun sv s1 _ v w1 u1 l1 r1 q1 q => q v w1 σ (.refl _ _) (Nat.le_refl _) r1 q1)⟩
def o2Nx : S2 → O2 := .nx
def o2Seq (f g : S2 → O2) : S2 → O2 := fun s => match f s with
  | .nx s' => g s'
  | o => o
theorem ss2_nil : DSs2 X W [] o2Nx := fun F w σ s D re q => ⟨_, pss_nil, q w σ (.refl _ _) (Nat.le_refl _) re⟩
theorem ss2_one (hh : DS2 X W st g) : DSs2 X W [st] g := fun F w σ s D re q => ⟨_, pss_one ps_w, hh F w σ s D re q⟩
theorem ss2_cons (hh : DS2 X W st g) (k : DSs2 X W rest h) : DSs2 X W (st :: rest) (o2Seq g h) := by
  intro F w σ s D re q
  refine ⟨_, pss_cons ps_w pss_w, ?_⟩
  refine hh F w σ s _ re ?_
  unfold o2Seq at q
  cases z : g s with
  | nx s' =>
    rw [z] at q
    exact fun w1 σ1 u1 l1 r1 => k F w1 σ1 s' D r1 (SP2.grow l1 u1 q)
  | stuck => rw [z] at q; exact q
  | exc x s' => rw [z] at q; exact q
  | rt sv s' => rw [z] at q; exact q
  | bk s' => rw [z] at q; exact q
  | ct s' => rw [z] at q; exact q
/-- slots fixed ahead of a statement -/
def fixs2 (s : S2) : List Nat → S2
  | [] => s
  | i :: l => fixs2 (fix2 s i) l
theorem ER2.fixs {K : PySem.W.Frag} : ∀ (l : List Nat) {w : Wd} {s : S2}, ER2 K F w σ s → ∃ w', Up w s.C.length w' ∧ w'.H = w.H ∧ (fixs2 s l).C = s.C ∧ ER2 K F w' σ (fixs2 s l)
  | [], w, s, r => ⟨w, .refl _ _, rfl, rfl, r⟩
  | i :: l, w, s, r => by
    obtain ⟨w1, u1, e1, c1, r1⟩ := r.fix (i := i)
    obtain ⟨w2, u2, e2, c2, r2⟩ := ER2.fixs l r1
    exact ⟨w2, u1.trans u2 (by rw [c1]; exact Nat.le_refl _), e2.trans e1, c2.trans c1, r2⟩
def o2Fix (l : List Nat) (f : S2 → O2) : S2 → O2 := fun s => f (fixs2 s l)
theorem s2_fix (l : List Nat) (hh : DS2 X W st g) : DS2 X W st (o2Fix l g) := by
  intro F w σ s D re q
  obtain ⟨w1, u1, e1, c1, r1⟩ := re.fixs l
  rw [← e1]
  exact hh F w1 σ _ D r1 (by rw [c1]; exact SP2.grow (Nat.le_refl _) u1 q)
def o2If (t : S2 → M2 Bool) (f g : S2 → O2) : S2 → O2 := fun s => oOf2 (t s) fun b s1 => if b = true then f s1 else g s1
theorem s2_if {c : Expr} {x y : List Stmt} {t : S2 → M2 Bool} (ht : DT2 X W c t) (hf : DSs2 X W x g) (hg : DSs2 X W y h) : DS2 X W (.If c x y pos) (o2If t g h) := by
  intro F w σ s D re q
  refine ⟨_, ps_if pt_w pss_w pss_w, ?_⟩
  refine ht F w σ s _ re (tp2_of q fun b s1 _ w1 u1 l1 r1 q => ?_)
  cases b with
  | true => exact hf F w1 σ s1 D r1 q
  | false => exact hg F w1 σ s1 D r1 q
/-! ### targets -/
abbrev Rho := List (Option Sv)
def DG2 (X : Cx) (tg : Expr) (bd : PyData → Rho → Option Rho) : Prop := ∀ (F : FrX X) w σ s v d ρ' (Q : L2.St → Hp → Prop), ER2 X.K F w σ s → R X.K w.B v d → bd d s.ρ = some ρ' → (∀ σ', ER2 X.K F w σ' { s with ρ := ρ' } → Q σ' w.H) → wG X tg v σ w.H Q
def DGs2 (X : Cx) (tgs : List Expr) (bd : List PyData → Rho → Option Rho) : Prop := ∀ (F : FrX X) w σ s vs ds ρ' (Q : L2.St → Hp → Prop), ER2 X.K F w σ s → RA X.K w.B vs ds → bd ds s.ρ = some ρ' → (∀ σ', ER2 X.K F w σ' { s with ρ := ρ' } → Q σ' w.H) → ∃ t, PGs X tgs t ∧ t vs σ w.H Q
def b2N (i : Nat) : PyData → Rho → Option Rho := fun d ρ => some (ρ.set i (some (.dat d)))
theorem g2_name {i : Nat} {x : Str} (hN : X.N.Nodup) (hi : X.N[i]? = some x) (hx : Loc X.env.scope x) (hf : X.fn x = true ∨ X.env.scope.names.lookup x = some .local := by first | exact .inl rfl | exact .inr rfl | assumption) : DG2 X (.Name x pos) (b2N i) := by
  intro F w σ s v d ρ' Q re r e k
  cases e
  exact ⟨_, pg_name hN hi hx hf, k _ (re.put (sv := .dat d) r)⟩
def b2Nil : List PyData → Rho → Option Rho := fun ds ρ => match ds with
  | [] => some ρ
  | _ => none
def b2Cons (t : PyData → Rho → Option Rho) (u : List PyData → Rho → Option Rho) : List PyData → Rho → Option Rho := fun ds ρ => match ds with
  | d :: ds => (t d ρ).bind (u ds)
  | [] => none
theorem gs2_nil : DGs2 X [] b2Nil := by
  intro F w σ s vs ds ρ' Q re r e k
  cases r with
  | nil =>
    cases e
    exact ⟨_, pgs_nil, rfl, k σ re⟩
  | cons _ _ => cases e
theorem gs2_cons {tg : Expr} {tgs : List Expr} {t : PyData → Rho → Option Rho} {u : List PyData → Rho → Option Rho} (h : DG2 X tg t) (k : DGs2 X tgs u) (hs : (assignEach (tg :: tgs) X.env).map (·.2) = assign tg X.env :: (assignEach tgs X.env).map (·.2) := by rfl) : DGs2 X (tg :: tgs) (b2Cons t u) := by
  intro F w σ s vs ds ρ' Q re r e q
  cases r with
  | nil => cases e
  | cons r1 r2 =>
    rename_i v vs d ds
    obtain ⟨ρ1, e1, e2⟩ := Option.bind_eq_some_iff.mp e
    -- the rest's reading, whatever the slots are
    have pu : PGs X tgs (fun vs σ H Q => ∃ t, PGs X tgs t ∧ t vs σ H Q) := ⟨fun pins s σ H vs us Q I r ⟨_, p, h⟩ => p.run pins s σ H vs us Q I r h⟩
    refine ⟨_, pgs_cons pg_w pu hs, v, vs, rfl, h F w σ s v d ρ1 _ re r1 e1 fun σ1 re1 => ?_⟩
    exact k F w σ1 _ vs ds ρ' Q re1 r2 e2 q
def b2Tup (n : Nat) (u : List PyData → Rho → Option Rho) : PyData → Rho → Option Rho := fun d ρ => match d with
  | .tuple ds => if ds.length = n then u ds ρ else none
  | _ => none
theorem g2_tup {tgs : List Expr} {k n : Nat} {u : List PyData → Rho → Option Rho} (hc : X.calm = true) (h : DGs2 X tgs u) (hn : (assignEach tgs X.env).length = n := by rfl) (hst : (assignEach tgs X.env).findIdx? (·.1) = none := by rfl) : DG2 X (.Tuple tgs k pos) (b2Tup n u) := by
  intro F w σ s v d ρ' Q re r e q
  unfold b2Tup at e
  split at e
  · rename_i ds
    split at e
    · rename_i hl
      cases r with
      | tup hs ra =>
        obtain ⟨t, p, z⟩ := h F w σ s _ ds ρ' Q re ra e q
        exact ⟨_, pg_tup hc p hn hst, _, _, rfl, ex_u re.st.s hs, by rw [ra.length]; exact hl, z⟩
    · cases e
  · cases e
def o2Asg (f : S2 → M2 Sv) (bd : PyData → Rho → Option Rho) : S2 → O2 := fun s => oOf2 (f s) fun sv s1 => if sv.isRef = true then .stuck else match bd sv.d s1.ρ with
  | some ρ' => .nx { s1 with ρ := ρ' }
  | none => .stuck
theorem s2_asg {tg : Expr} {bd : PyData → Rho → Option Rho} (h : DE2 X W e f) (hg : DG2 X tg bd) (hs : swapsWithSole [tg] e pos.line X.env = pure false := by rfl) (hw : swappedStores [tg] e X.env = pure none := by rfl)
    (h1 : (assignEach [tg] X.env).map (·.2) = [assign tg X.env] := by rfl) : DS2 X W (.Assign [tg] e pos) (o2Asg f bd) := by
  intro F w σ s D re q
  refine ⟨_, ps_asg pe_w pg_w hs hw h1, h F w σ s _ re (ep2_of q fun sv s1 _ v w1 u1 l1 r1 q1 q => ?_)⟩
  split at q
  · exact q.elim
  · rename_i hr
    obtain ⟨w2, u2, e2, _, r2, q2⟩ := r1.fixV q1 (by simpa using hr)
    rw [← e2]
    split at q
    · rename_i ρ' hb
      exact hg F w2 σ s1 v sv.d ρ' _ r2 q2 hb fun σ' r3 => q w2 σ' u2 (Nat.le_refl _) r3
    · exact q.elim
/-! ### what is walked -/
def IP2 (K : PySem.W.Frag) (F : Fr) (W : WX) (σ : L2.St) (w : Wd) (L : Nat) (r : M2 (List PyData)) (Q : It → Hp → Prop) : Prop := match r with
  | .stuck => False
  | .exc x s' => XP2 K F W σ w L x s'
  | .ok ds s' => ∀ J w', Up w L w' → L ≤ s'.C.length → ER2 K F w' σ s' → Wlk K w'.B J ds → Q J w'.H
def DI2 (X : Cx) (W : WX) (tg iter : Expr) (f : S2 → M2 (List PyData)) : Prop := ∀ (F : FrX X) w σ s Q, ER2 X.K F w σ s → IP2 X.K F W σ w s.C.length (f s) Q → wI X tg iter σ w.H Q
def liftI (f : Env → M (List PyData)) : S2 → M2 (List PyData) := fun s => match f (hide s.ρ) with
  | .stuck => .stuck
  | .exc x => .exc x s
  | .ok ds => .ok ds s
theorem i2_lift {E : XK} {tg iter : Expr} {fi : Env → M (List PyData)} (h : DI X E tg iter fi) : DI2 X (WC E) tg iter (liftI fi) := by
  intro F w σ s Q r q
  obtain ⟨t, p, h⟩ := h
  refine ⟨t, p, h _ _ _ _ _ _ _ r.pure ?_⟩
  unfold liftI at q
  cases z : fi (hide s.ρ) with
  | stuck => rw [z] at q; exact q.elim
  | exc x =>
    rw [z] at q
    exact fun H' ex => q { w with B := w.B, H := H' } ⟨.refl _, fun _ _ => rfl⟩ (Nat.le_refl _) (r.grow ⟨.refl _, ex, r.st.s.trans ex, fun _ _ _ h => .inl h⟩)
  | ok ds =>
    rw [z] at q
    exact fun J B' H' g wl => q J _ (.of_gr g) (Nat.le_refl _) (r.grow g) wl
def iOf2 (f : S2 → M2 Sv) : S2 → M2 (List PyData) := fun s => (f s).bind fun x s1 => if x.isRef = true then .stuck else match itemsD x.d with
  | .ok ds => .ok ds s1
  | _ => .stuck
theorem IP2.bind {K : PySem.W.Frag} {L : Nat} {α : Type} {r : M2 α} {g : α → S2 → M2 (List PyData)} {Q : It → Hp → Prop} (h : IP2 K F W σ w L (r.bind g) Q) : (∃ a s', r = .ok a s' ∧ IP2 K F W σ w L (g a s') Q) ∨ ∃ x s', r = .exc x s' ∧ XP2 K F W σ w L x s' := by
  cases r with
  | stuck => exact h.elim
  | exc x s' => exact .inr ⟨x, s', rfl, h⟩
  | ok a s' => exact .inl ⟨a, s', rfl, h⟩
theorem i2_any {tg : Expr} (h : DE2 X W e f) : DI2 X W tg e (iOf2 f) := by
  intro F w σ s Q re q
  refine ⟨_, pi_any pe_w, ?_⟩
  refine run2f h re ?_
  rcases q.bind with ⟨x, s1, e1, q⟩ | z
  · try simp only at q
    split at q
    · exact q.elim
    · rename_i hx
      refine .inl ⟨x, s1, e1, by simpa using hx, fun v w1 u1 l1 r1 q1 => ?_⟩
      cases z : x.d with
      | list ds =>
        rw [z] at q q1
        cases q1 with
        | lst hl ra => exact .inl ⟨_, rfl, .inl ⟨_, .of (r1.st.s _ _ hl), q _ w1 u1 l1 r1 (wlk_at walk_list ra fun B2 H2 e1 e2 => .of (e2 _ _ (e1 _ _ hl)))⟩⟩
      | tuple ds =>
        rw [z] at q q1
        cases q1 with
        | tup hl ra => exact .inl ⟨_, rfl, .inr ⟨_, ex_u r1.st.s hl, q _ w1 u1 l1 r1 (wlk_at walk_tup ra fun B2 H2 e1 e2 => ex_t e2 (ex_u e1 hl))⟩⟩
      | str y =>
        rw [z] at q q1
        cases q1
        exact .inr ⟨y, rfl, q _ w1 u1 l1 r1 (wlk_str y)⟩
      | none => rw [z] at q; exact q.elim
      | bool b => rw [z] at q; exact q.elim
      | int b => rw [z] at q; exact q.elim
      | dict b => rw [z] at q; exact q.elim
  · exact .inr z
/-! ### for, while -/
def o2For (bd : PyData → Rho → Option Rho) (body : S2 → O2) : List PyData → S2 → O2
  | [], s => .nx s
  | d :: ds, s => match bd d s.ρ with
    | some ρ1 => (match body { s with ρ := ρ1 } with
      | .nx s2 => o2For bd body ds s2
      | .ct s2 => o2For bd body ds s2
      | .bk s2 => .nx s2
      | .rt sl s2 => .rt sl s2
      | .exc x s2 => .exc x s2
      | .stuck => .stuck)
    | none => .stuck
def o2ForE (fi : S2 → M2 (List PyData)) (bd : PyData → Rho → Option Rho) (body : S2 → O2) : S2 → O2 := fun s => oOf2 (fi s) fun ds s1 => o2For bd body ds s1
theorem ip2_of {K : PySem.W.Frag} {L : Nat} {D : Ends} {r : M2 (List PyData)} {k : List PyData → S2 → O2} {Q : It → Hp → Prop} (h : SP2 K F W w L D (oOf2 r k))
    (hk : ∀ ds s', r = .ok ds s' → ∀ J w', Up w L w' → L ≤ s'.C.length → ER2 K F w' σ s' → Wlk K w'.B J ds → SP2 K F W w' s'.C.length D (k ds s') → Q J w'.H) : IP2 K F W σ w L r Q := by
  cases r with
  | stuck => exact h.elim
  | exc x s' => exact fun w' u l r => h w' σ u l r
  | ok sv s' => exact fun J w' u l r q => hk sv s' rfl J w' u l r q (SP2.grow l u h)
theorem s2_for {tg iter : Expr} {body : List Stmt} {fi : S2 → M2 (List PyData)} {bd : PyData → Rho → Option Rho} (hp : PassesOwn (model X.prog X.w) X.A X.env X.xe) (hc : X.calm = true) (hi : DI2 X W tg iter fi) (hg : DG2 X tg bd) (hb : DSs2 X W body g)
    (hs : ∀ x, foldedSetIterable iter X.env x = pure x := by intro _; rfl) : DS2 X W (.For tg iter body [] pos) (o2ForE fi bd g) := by
  intro F w σ s D re q0
  refine ⟨_, ps_for hp hc pi_w pg_w pss_w hs, ?_⟩
  refine hi F w σ s _ re (ip2_of q0 fun ds s1 _ J w1 u1 l1 r1 wl q => ?_)
  obtain ⟨G, Y, wk, hG, hY⟩ := wl
  refine for_it wk (fun i σ' H' => ∃ w' s', w'.H = H' ∧ ER2 X.K F w' σ' s' ∧ Up w1 s1.C.length w' ∧ s1.C.length ≤ s'.C.length ∧ SP2 X.K F W w' s'.C.length D (o2For bd g (ds.drop i) s')) ⟨w1, s1, rfl, r1, .refl _ _, Nat.le_refl _, q⟩ (fun i σ' H' _ ⟨w', s', e, r, u, _⟩ => by rw [← e]; exact hG w'.B w'.H u.b r.st.s) ?_ ?_
  · rintro i v σ' H2 H3 hlt ⟨w', s', rfl, r, u, l, sp⟩ y
    obtain ⟨B2, d, hd, g2, rv⟩ := hY i w'.B w'.H v H3 hlt u.b r.st.s y
    have r2 := r.grow g2
    have hdr : ds.drop i = d :: ds.drop (i + 1) := by
      have hh : i < ds.length := hlt
      rw [List.getElem?_eq_getElem hh] at hd
      cases hd
      exact List.drop_eq_getElem_cons hh
    rw [hdr] at sp
    unfold o2For at sp
    cases z : bd d s'.ρ with
    | none => rw [z] at sp; exact sp.elim
    | some ρ1 =>
      rw [z] at sp
      dsimp only at sp
      refine hg F { w' with B := B2, H := H3 } σ' s' v d ρ1 _ r2 rv z fun σ1 re1 => ?_
      refine hb F { w' with B := B2, H := H3 } σ1 _ _ re1 ?_
      have sp := SP2.grow (w' := { w' with B := B2, H := H3 }) (Nat.le_refl _) (.of_gr g2) sp
      have uu : Up w1 s1.C.length { w' with B := B2, H := H3 } := u.trans (.of_gr g2) l
      cases zb : g { s' with ρ := ρ1 } with
      | nx s2 =>
        rw [zb] at sp
        exact fun w4 σ4 u4 l4 r4 => ⟨w4, s2, rfl, r4, uu.trans u4 l, Nat.le_trans l l4, SP2.grow l4 u4 sp⟩
      | ct s2 =>
        rw [zb] at sp
        exact fun w4 σ4 u4 l4 r4 => ⟨w4, s2, rfl, r4, uu.trans u4 l, Nat.le_trans l l4, SP2.grow l4 u4 sp⟩
      | bk s2 => rw [zb] at sp; exact sp
      | rt sl s2 => rw [zb] at sp; exact sp
      | exc x s2 => rw [zb] at sp; exact sp
      | stuck => rw [zb] at sp; exact sp
  · rintro σ' H2 ⟨w', s', rfl, r, u, l, sp⟩
    rw [List.drop_length] at sp
    exact sp w' σ' (.refl _ _) (Nat.le_refl _) r
/-! ### raise, try -/
/-! ### isinstance of the exception that the suite holds -/
end
end Dl
/-! The layer with objects that change: defs, methods, makers. -/
namespace Dl
open PySem PySem.Spec PyProof.Rows L2
inductive F2 where
  | stuck
  | exc (x : Str) (C : Store)
  | ok (r : Sv) (C : Store)
def RV (K : PySem.W.Frag) (w w' : Wd) (L : Nat) (v : V) : Sv → Prop
  | .dat d => R K w'.B v d
  | .own d => ∃ p o, v = .ref p ∧ w.H p = none ∧ w'.B p = none ∧ w'.Ω p = none ∧ w'.H p = some o ∧ Top K w'.B o d
  | .ref n => v = .ref (w'.μ n) ∧ n < L
  | .exc => False
def FP2 (K : PySem.W.Frag) (E : XK) (w : Wd) (L : Nat) (r : F2) (Q : VK) : Prop := match r with
  | .stuck => False
  | .exc x C' => ∀ w', Chg w L w' → L ≤ C'.length → SR K w' C' → E (.ref (He.ga K x)) none w'.H
  | .ok r C' => ∀ v w', Chg w L w' → L ≤ C'.length → SR K w' C' → RV K w w' C'.length v r → Q v w'.H
/-- a def's promise, with the store -/
def sp2D (K : PySem.W.Frag) (n : Nat) (g : List Sv → Store → F2) : Sp := fun vs H Q E => vs.length = n ∧ ∃ svs w C, w.H = H ∧ SR K w C ∧ AVs K w C.length vs svs ∧ FP2 K E w C.length (g svs C) Q
def fn2 (n m : Nat) (o : S2 → O2) : List Sv → Store → F2 := fun svs C => if svs.length = n then (match o ⟨svs.map some ++ List.replicate (m - n) none, C⟩ with
  | .rt sv s => .ok sv s.C
  | .nx s => .ok (.dat .none) s.C
  | .exc x s => .exc x s.C
  | _ => .stuck) else .stuck
section
variable {K : PySem.W.Frag} {F : Fr} {w w' : Wd} {σ : L2.St} {s : S2} {L : Nat}
theorem AVs.get {vs : List V} {svs : List Sv} {i : Nat} {sv : Sv} (h : AVs K w L vs svs) (e : svs[i]? = some sv) : ∃ v, vs[i]? = some v ∧ AV K w L v sv := by
  induction h generalizing i with
  | nil => cases e
  | cons h t ih =>
    cases i with
    | zero =>
      simp at e
      subst e
      exact ⟨_, rfl, h⟩
    | succ i =>
      obtain ⟨v, h1, h2⟩ := ih (i := i) (by simpa using e)
      exact ⟨v, by simpa using h1, h2⟩
theorem er2_start {N : List Str} {vs : List V} {svs : List Sv} {C : Store} (st : SR K w C) (r : AVs K w C.length vs svs) (x : Addr) : ER2 K ⟨w, C.length, x⟩ w (L2.start N vs) ⟨svs.map some ++ List.replicate (N.length - svs.length) none, C⟩ := by
  have hl := r.length
  have key : ∀ (i : Nat) sv, (svs.map some ++ List.replicate (N.length - svs.length) (none : Option Sv))[i]? = some (some sv) → svs[i]? = some sv := by
    intro i sv q
    by_cases z : i < svs.length
    · rw [List.getElem?_append_left (by simpa using z), List.getElem?_map] at q
      cases z2 : svs[i]? with
      | none => rw [z2] at q; cases q
      | some d2 => rw [z2] at q; cases q; rfl
    · rw [List.getElem?_append_right (by simpa using z)] at q
      simp only [List.getElem?_replicate] at q
      split at q <;> cases q
  have val : ∀ (i : Nat) sv, svs[i]? = some sv → ∃ v, (L2.start N vs)[i]? = some (some v) ∧ AV K w C.length v sv := by
    intro i sv e
    obtain ⟨v, k1, k2⟩ := r.get e
    refine ⟨v, ?_, k2⟩
    unfold L2.start
    have z : i < vs.length := (List.getElem?_eq_some_iff.mp k1).1
    rw [List.getElem?_append_left (by simpa using z), List.getElem?_map, k1]
    rfl
  refine ⟨.refl _ _, Nat.le_refl _, st, ?_, fun i d q => ?_, fun i d q => ?_, fun i q => ?_, fun i n q => ?_, fun i j d e p q => ?_⟩
  · unfold L2.start
    simp [hl]
  · obtain ⟨v, k1, k2⟩ := val i _ (key i _ q)
    exact ⟨v, k1, k2⟩
  · obtain ⟨v, k1, k2⟩ := val i _ (key i _ q)
    exact (show False from k2).elim
  · obtain ⟨v, k1, k2⟩ := val i _ (key i _ q)
    exact (show False from k2).elim
  · obtain ⟨v, k1, k2⟩ := val i _ (key i _ q)
    obtain ⟨rfl, k3⟩ := k2
    exact ⟨k1, k3⟩
  · obtain ⟨v, k1, k2⟩ := val i _ (key i _ q)
    exact (show False from k2).elim
theorem VR.rv {v : V} {sv : Sv} (r : ER2 K F w' σ s) (q : VR K F w' σ s v sv) : RV K F.w w' s.C.length v sv := by
  cases sv with
  | dat d => exact q
  | ref n => exact q
  | exc => exact q
  | own d =>
    obtain ⟨p, o, h1, h2, h3, h4, h5, h6, _⟩ := q
    exact ⟨p, o, h1, h2, h3, h4, h5, h6⟩
/-- behind a call -/
theorem ER2.after {C' : Store} (r : ER2 K F w σ s) (c : Chg w s.C.length w') (hl : s.C.length ≤ C'.length) (st : SR K w' C') : ER2 K F w' σ { s with C := C' } := by
  refine ⟨r.gr.trans c r.ln, Nat.le_trans r.ln hl, st, r.len, fun i d e => ?_, fun i d e => ?_, r.ex, fun i n e => ?_, r.sep⟩
  · obtain ⟨v, h1, h2⟩ := r.dat i d e
    exact ⟨v, h1, h2.mono c.b⟩
  · obtain ⟨p, o, h1, h2, h3, h4, h5, h6⟩ := r.own i d e
    exact ⟨p, o, h1, h2, (c.l p o h5 h4 h3).resolve_right (fun ⟨xs, e⟩ => h6.noT xs e), c.o p o h5 h4, c.h p o h5 h4, h6.mono c.b⟩
  · obtain ⟨h1, h2⟩ := r.rf i n e
    exact ⟨by rw [c.m n h2]; exact h1, Nat.lt_of_lt_of_le h2 hl⟩
theorem RV.vr {C' : Store} {v : V} {sv : Sv} (r : ER2 K F w σ s) (c : Chg w s.C.length w') (q : RV K w w' C'.length v sv) : VR K F w' σ { s with C := C' } v sv := by
  cases sv with
  | dat d => exact q
  | ref n => exact q
  | exc => exact q
  | own d =>
    obtain ⟨p, o, h1, h2, h3, h4, h5, h6⟩ := q
    refine ⟨p, o, h1, ?_, h3, h4, h5, h6, fun i e k1 k2 => ?_⟩
    · cases z : F.w.H p with
      | none => rfl
      | some u =>
        obtain ⟨o', h'⟩ := r.gr.k p u z
        rw [h2] at h'
        cases h'
    · obtain ⟨p2, o2, j1, _, _, _, j5, _⟩ := r.own i e k1
      rw [k2] at j1
      cases j1
      rw [h2] at j5
      cases j5
theorem Chg.up (c : Chg w L w') : Up w L w' := ⟨c.b, c.m⟩
end
/-! ### a body's run is what the def promises -/
theorem body2_ok {X : Cx} {E : XK} {body : List Stmt} {o : S2 → O2} {N : List Str} {n : Nat} (hc : X.calm = true) (h : DSs2 X (WC E) body o) {vs : List V} {H : Hp} {Q : VK} (hs : sp2D X.K n (fn2 n N.length o) vs H Q E) :
    ∃ t, PSs X body t ∧ t { nx := fun _ H' => Q .non H', rt := Q } (L2.start N vs) H := by
  obtain ⟨hn, svs, w, C, rfl, st, r, q⟩ := hs
  refine h ⟨⟨w, C.length, 0⟩, fun z => by rw [hc] at z; cases z⟩ w _ _ _ (er2_start st r 0) ?_
  have hl : svs.length = n := by rw [← r.length]; exact hn
  unfold fn2 at q
  rw [if_pos hl, ← hl] at q
  cases z : o ⟨svs.map some ++ List.replicate (N.length - svs.length) none, C⟩ with
  | stuck => rw [z] at q; exact q.elim
  | exc x s' =>
    rw [z] at q
    exact fun w' σ' _ l r' => q w' r'.gr l r'.st
  | bk s' => rw [z] at q; exact q.elim
  | ct s' => rw [z] at q; exact q.elim
  | nx s' =>
    rw [z] at q
    exact fun w' σ' _ l r' => q .non w' r'.gr l r'.st .non
  | rt sv s' =>
    rw [z] at q
    exact fun v w' σ' _ l r' q' => q v w' r'.gr l r'.st (VR.rv r' q')
section
variable {P : Program} {w : World} {K : PySem.W.Frag} {mg : Str → Option Value} {base : Heap}
theorem fn2_mk {x qual : Str} {st : Stmt} {N ps : List Str} {k : Nat} {o : S2 → O2} {f : Addr} (hF : ∃ fd, FunD K x qual (defArgs st) (defBody st) (defScope st) [] [] f fd) (S : FnScope N ps (defScope st))
    (hb : ∀ (kV doc pm : Value) (an : Option Addr) (cdv ct : Value) (us : List Value), us.length = ps.length → bindArgs (PySem.W.fnOf x qual (defArgs st) (defBody st) (defScope st) .none kV doc pm an cdv ct) ⟨us, []⟩ = pure (ps.zip us))
    (h : ∀ (cdv : Value) (A : Around) (outer : List PySem.Env) (s : Shared) (H : Hp) (E : XK), Room k (A.deeper (envOfC qual (defScope st) s.heap.objs.size f cdv)) →
      L2N.Takes (cxOf (L2N.CX P w) P w K mg base N qual (defScope st) f cdv A outer s H E) (WC E) →
      DSs2 (cxOf (L2N.CX P w) P w K mg base N qual (defScope st) f cdv A outer s H E) (WC E) (defBody st) o) : ∃ fd, FnOk P w K mg base (L2N.CX P w) (k + 1) f fd ps (sp2D K ps.length (fn2 ps.length N.length o)) ∧ Binds K fd ps [] := by
  obtain ⟨fd, F⟩ := hF
  refine ⟨fd, ?_, F.bindsN hb⟩
  refine F.ok S (fun vs H Q E h => h.1) fun cdv A outer s H vs Q E hr hs => ?_
  exact body2_ok rfl (h cdv A outer s H E hr (L2N.takes_of rfl rfl rfl rfl)) hs
def Knows2 (P : Program) (w : World) (K : PySem.W.Frag) (mg : Str → Option Value) (base : Heap) (x : Str) (k : Nat) (ps : List Str) (g : List Sv → Store → F2) : Prop :=
  mg x = some (.ref (He.ga K x)) ∧ PySem.W.keepIn K (.ref (He.ga K x)) = true ∧ ∃ fd, FnOk P w K mg base (L2N.CX P w) k (He.ga K x) fd ps (sp2D K ps.length g) ∧ Binds K fd ps []
def KnowsM2 (P : Program) (w : World) (K : PySem.W.Frag) (mg : Str → Option Value) (base : Heap) (x m : Str) (k : Nat) (ps : List Str) (g : List Sv → Store → F2) : Prop :=
  Cls K (He.ga K x) ∧ Meth K (He.ga K x) m (He.ma K (He.ga K x) m) ∧ ∃ fd, FnOk P w K mg base (L2N.CX P w) k (He.ma K (He.ga K x) m) fd ps (sp2D K ps.length g) ∧ Binds K fd ps []
def KnowsI (P : Program) (w : World) (K : PySem.W.Frag) (mg : Str → Option Value) (base : Heap) (x : Str) (k : Nat) (ps : List Str) (g : List Sv → Store → F2) : Prop :=
  mg x = some (.ref (He.ga K x)) ∧ Mk K (He.ga K x) (He.ma K (He.ga K x) "__init__") ∧ ∃ fd, FnOk P w K mg base (L2N.CX P w) k (He.ma K (He.ga K x) "__init__") fd ps (sp2D K ps.length g) ∧ Binds K fd ps []
/-- what a def does with data alone -/
def pureOf (g : List Sv → Store → F2) : List PyData → M Sl := fun ds => match g (ds.map .dat) [] with
  | .ok (.dat d) _ => .ok (.dat d)
  | .ok (.own d) _ => .ok (.own d)
  | .exc x _ => .exc x
  | _ => .stuck
theorem avs_dat {B : Hp} {μ : Nat → Addr} {Ω : Addr → Option Owner} {H : Hp} {L : Nat} {vs : List V} {ds : List PyData} (r : RA K B vs ds) : AVs K ⟨B, H, μ, Ω⟩ L vs (ds.map .dat) := by
  induction ds generalizing vs with
  | nil => cases r; exact .nil
  | cons d ds ih => cases r with
    | cons r t => exact .cons r (ih t)
theorem sp_pure {n : Nat} {g : List Sv → Store → F2} {vs : List V} {H : Hp} {Q : VK} {E : XK} (h : spD K n (pureOf g) vs H Q E) : sp2D K n g vs H Q E := by
  obtain ⟨hn, ds, B, ex, ra, q⟩ := h
  refine ⟨hn, ds.map .dat, ⟨B, H, fun _ => 0, fun _ => none⟩, [], rfl, ⟨ex, fun n c e => by simp at e, fun a o h => by simp at h, fun a o h => by simp at h⟩, avs_dat ra, ?_⟩
  unfold pureOf at q
  have gr : ∀ w', Chg ⟨B, H, fun _ => 0, fun _ => none⟩ 0 w' → ∀ C', SR K w' C' → Gr B H w'.B w'.H := fun w' c C' st => ⟨c.b, fun a o h => c.h a o h rfl, st.s, fun a o h b => c.l a o h rfl b⟩
  cases z : g (ds.map .dat) [] with
  | stuck => rw [z] at q; exact q.elim
  | exc x C' =>
    rw [z] at q
    exact fun w' c l st => q w'.H (gr w' c C' st).h
  | ok r C' =>
    rw [z] at q
    cases r with
    | dat d => exact fun v w' c l st rv => q v w'.B w'.H (gr w' c C' st) rv
    | own d =>
      intro v w' c l st rv
      obtain ⟨p, o, h1, h2, h3, h4, h5, h6⟩ := rv
      exact q v w'.B w'.H (gr w' c C' st) ⟨p, o, h1, h2, h3, h5, h6⟩
    | ref n => exact q.elim
    | exc => exact q.elim
theorem Knows2.pure {x : Str} {k : Nat} {ps : List Str} {g : List Sv → Store → F2} (h : Knows2 P w K mg base x k ps g) : Knows P w K mg base x k ps (pureOf g) :=
  let ⟨h1, h2, fd, F, b⟩ := h
  ⟨h1, h2, fd, F.imp fun vs H Q E q => sp_pure q, b⟩
end
/-! ### calls -/
section
variable {X : Cx} {W : WX} {F : FrX X} {w : Wd} {σ : L2.St} {s : S2} {e a o : Expr} {es : List Expr} {pos : Pos} {E : XK}
def afterF (r : F2) (s : S2) : M2 Sv := match r with
  | .stuck => .stuck
  | .exc x C => .exc x { s with C := C }
  | .ok r C => .ok r { s with C := C }
theorem fpost2 {K : PySem.W.Frag} {F : Fr} {r : F2} {Q : VK} (re : ER2 K F w σ s) (q : EP2 K F W σ w s.C.length (afterF r s) Q) : FP2 K (WE W σ) w s.C.length r Q := by
  cases r with
  | stuck => exact q
  | exc x C' => exact fun w' c l st => q w' c.up l (re.after c l st)
  | ok r C' => exact fun v w' c l st rv => q v w' c.up l (re.after c l st) (RV.vr re c rv)
/-- a method of a cell's instance -/
def methS2 (x m : Str) (g : List Sv → Store → F2) (fo : S2 → M2 Sv) (f : S2 → M2 (List Sv)) : S2 → M2 Sv := fun s => (fo s).bind fun o s1 => match o with
  | .ref n => (match s1.C[n]? with
    | some c => if c.cls = x ∧ c.fs.lookup m = none then (f s1).bind fun svs s2 => afterF (g (.ref n :: svs) s2.C) s2 else .stuck
    | none => .stuck)
  | _ => .stuck
theorem run_methS2 {x m : Str} {n : Nat} {g : List Sv → Store → F2} {fo : S2 → M2 Sv} {f : S2 → M2 (List Sv)} (ho : DE2 X W o fo) {t : TA} (ha : ∀ (F : FrX X) w σ s Q, ER2 X.K F w σ s → AP2 X.K F W σ w s.C.length (f s) Q → t σ w.H Q) (hl : ∀ s svs s', f s = .ok svs s' → svs.length + 1 = n)
    {Q : VK} (re : ER2 X.K F w σ s) (q : EP2 X.K F W σ w s.C.length (methS2 x m g fo f s) Q) : tMethA (He.ga X.K x) m (sp2D X.K n g) (WE W) (wE X o) t σ w.H Q := by
  refine run2 ho re ?_
  have qb := q.bind
  clear q
  rcases qb with ⟨y, s1, e1, q⟩ | z
  · refine .inl ⟨y, s1, e1, fun v w1 u1 l1 r1 q1 => ?_⟩
    replace q := EP2.grow l1 u1 q
    cases y with
    | dat d => exact q.elim
    | own d => exact q.elim
    | exc => exact q.elim
    | ref k =>
      obtain ⟨rfl, hk⟩ := q1
      dsimp only at q
      split at q
      · rename_i c hck
        split at q
        · rename_i hx
          obtain ⟨hx, hm⟩ := hx
          obtain ⟨dx, fs, c1, c2, c3, c4⟩ := r1.st.cell k c hck
          rw [hx] at c2
          refine ⟨_, dx, fs, rfl, c2, c4.none hm, ha F w1 σ s1 _ r1 ?_⟩
          rcases q.bind with ⟨svs, s2, e2, q⟩ | ⟨z1, z2, z3, z4⟩
          · rw [e2]
            intro vs w2 u2 l2 r2 q2
            have q := EP2.grow l2 u2 q
            exact ⟨by rw [List.length_cons, q2.length]; exact hl s1 svs s2 e2, .ref k :: svs, w2, s2.C, rfl, r2.st, .cons ⟨by rw [u2.m k hk], Nat.lt_of_lt_of_le hk l2⟩ q2, fpost2 r2 q⟩
          · rw [z3]
            exact z4
        · exact q.elim
      · exact q.elim
  · exact .inr z
theorem e2_methS {x m : Str} {k : Nat} {ps : List Str} {g : List Sv → Store → F2} {fo : S2 → M2 Sv} {f : S2 → M2 (List Sv)} {apos : Pos} (kn : KnowsM2 X.prog X.w X.K X.mg X.base x m k ps g) (ho : DE2 X W o fo) (ha : DA2 X W (e :: es) f) (hl : ∀ s svs s', f s = .ok svs s' → svs.length + 1 = ps.length)
    (hpe : ∀ {to : TE} {t : TA} {sp : Sp} {fd : FuncData}, PE X o to → PA X (e :: es) t → Meth X.K (He.ga X.K x) m (He.ma X.K (He.ga X.K x) m) → FnOk X.prog X.w X.K X.mg X.base (L2N.CX X.prog X.w) k (He.ma X.K (He.ga X.K x) m) fd ps sp → Binds X.K fd ps [] → Cls X.K (He.ga X.K x) →
      PE X (.Call (.Attribute o m apos) (e :: es) [] pos) (tMethA (He.ga X.K x) m sp (WE W) to t)) : DE2 X W (.Call (.Attribute o m apos) (e :: es) [] pos) (methS2 x m g fo f) := by
  obtain ⟨c, hm, fd, F, b⟩ := kn
  exact fun Fr w σ s Q re q => ⟨_, hpe pe_w pa_w hm F b c, run_methS2 ho ha hl re q⟩
theorem e2_methS0 {x m : Str} {k : Nat} {ps : List Str} {g : List Sv → Store → F2} {fo : S2 → M2 Sv} {apos : Pos} (kn : KnowsM2 X.prog X.w X.K X.mg X.base x m k ps g) (ho : DE2 X W o fo) (hl : 1 = ps.length)
    (hpe : ∀ {to : TE} {sp : Sp} {fd : FuncData}, PE X o to → Meth X.K (He.ga X.K x) m (He.ma X.K (He.ga X.K x) m) → FnOk X.prog X.w X.K X.mg X.base (L2N.CX X.prog X.w) k (He.ma X.K (He.ga X.K x) m) fd ps sp → Binds X.K fd ps [] → Cls X.K (He.ga X.K x) →
      PE X (.Call (.Attribute o m apos) [] [] pos) (tMethA (He.ga X.K x) m sp (WE W) to tNil)) : DE2 X W (.Call (.Attribute o m apos) [] [] pos) (methS2 x m g fo nil2) := by
  obtain ⟨c, hm, fd, F, b⟩ := kn
  refine fun Fr w σ s Q re q => ⟨_, hpe pe_w hm F b c, run_methS2 (f := nil2) ho (fun F w σ s Q re q => q [] w (.refl _ _) (Nat.le_refl _) re .nil) ?_ re q⟩
  intro s svs s' e
  cases e
  exact hl
/-! ### C(..) -/
theorem ER2.new {K : PySem.W.Frag} {F : Fr} {x dx : Addr} {cls : Str} (r : ER2 K F w σ s) (hx : w.H x = none) (hd : w.H dx = none) (hn : dx ≠ x) :
    Chg w s.C.length ⟨w.B, upd (upd w.H dx (.own x)) x (.ins (He.ga K cls) dx []), fun m => if m = s.C.length then x else w.μ m, fun a => if a = x then some (.cell s.C.length) else w.Ω a⟩ ∧
    ER2 K F ⟨w.B, upd (upd w.H dx (.own x)) x (.ins (He.ga K cls) dx []), fun m => if m = s.C.length then x else w.μ m, fun a => if a = x then some (.cell s.C.length) else w.Ω a⟩ σ { s with C := s.C ++ [⟨cls, []⟩] } := by
  have old : ∀ a u, w.H a = some u → upd (upd w.H dx (.own x)) x (.ins (He.ga K cls) dx []) a = some u := fun a u h => by
    rw [upd_ne (ne_of_none h hx), upd_ne (ne_of_none h hd)]
    exact h
  have oo : ∀ a u, w.H a = some u → (if a = x then some (Owner.cell s.C.length) else w.Ω a) = w.Ω a := fun a u h => by rw [if_neg (ne_of_none h hx)]
  have mm : ∀ n, n < s.C.length → (if n = s.C.length then x else w.μ n) = w.μ n := fun n h => by rw [if_neg (Nat.ne_of_lt h)]
  have c : Chg w s.C.length ⟨w.B, upd (upd w.H dx (.own x)) x (.ins (He.ga K cls) dx []), fun m => if m = s.C.length then x else w.μ m, fun a => if a = x then some (.cell s.C.length) else w.Ω a⟩ :=
    ⟨.refl _, fun a u h _ => old a u h, fun a u h _ b => .inl b, fun a u h n => (oo a u h).trans n, fun a u h => ⟨u, old a u h⟩, mm⟩
  refine ⟨c, r.after c (by rw [List.length_append]; exact Nat.le_add_right _ _) ⟨fun a u h => old a u (r.st.s a u h), fun n c hc => ?_, fun a u h => ?_, fun a u h => ?_⟩⟩
  · by_cases hl : n < s.C.length
    · rw [List.getElem?_append_left hl] at hc
      obtain ⟨dx2, fs, h1, h2, h3, h4⟩ := r.st.cell n c hc
      refine ⟨dx2, fs, ?_, ?_, h3, ?_⟩
      · show (if (if n = s.C.length then x else w.μ n) = x then some (Owner.cell s.C.length) else w.Ω (if n = s.C.length then x else w.μ n)) = _
        rw [mm n hl, oo _ _ h2]
        exact h1
      · show upd (upd w.H dx (.own x)) x (.ins (He.ga K cls) dx []) (if n = s.C.length then x else w.μ n) = _
        rw [mm n hl]
        exact old _ _ h2
      · exact FVs.mono (w := w) (by rw [List.length_append]; exact Nat.le_add_right _ _) (Ex.refl w.B) mm (h := h4) fun p f o q1 q2 => ⟨by show (if p = x then some (Owner.cell s.C.length) else w.Ω p) = _; rw [oo _ _ q2]; exact q1, old _ _ q2⟩
    · rw [List.getElem?_append_right (Nat.le_of_not_lt hl)] at hc
      have e : n - s.C.length = 0 := by
        have := (List.getElem?_eq_some_iff.mp hc).1
        simpa using this
      rw [e] at hc
      cases hc
      have en : n = s.C.length := by omega
      subst en
      refine ⟨dx, [], ?_, ?_, List.nodup_nil, .nil⟩
      · show (if (if s.C.length = s.C.length then x else w.μ s.C.length) = x then some (Owner.cell s.C.length) else _) = _
        rw [if_pos rfl, if_pos rfl]
      · show upd (upd w.H dx (.own x)) x (.ins (He.ga K cls) dx []) (if s.C.length = s.C.length then x else w.μ s.C.length) = _
        rw [if_pos rfl]
        exact upd_same
  · have h : (if a = x then some (Owner.cell s.C.length) else w.Ω a) = some u := h
    by_cases z : a = x
    · rw [z]
      exact r.st.s.back hx
    · rw [if_neg z] at h
      exact r.st.out a u h
  · have h : (if a = x then some (Owner.cell s.C.length) else w.Ω a) = some u := h
    by_cases z : a = x
    · subst z
      rw [if_pos rfl] at h
      cases h
      exact ⟨_, upd_same, trivial⟩
    · rw [if_neg z] at h
      obtain ⟨u', h1, h2⟩ := r.st.has a u h
      exact ⟨u', old a u' h1, h2⟩
def newF (n : Nat) (r : F2) (s : S2) : M2 Sv := match r with
  | .exc x C => .exc x { s with C := C }
  | .ok (.dat .none) C => .ok (.ref n) { s with C := C }
  | _ => .stuck
def mk2 (x : Str) (g : List Sv → Store → F2) (f : S2 → M2 (List Sv)) : S2 → M2 Sv := fun s => (f s).bind fun svs s1 => newF s1.C.length (g (.ref s1.C.length :: svs) (s1.C ++ [⟨x, []⟩])) s1
theorem run_mk2 {x : Str} {n : Nat} {g : List Sv → Store → F2} {f : S2 → M2 (List Sv)} {t : TA} (ha : ∀ (F : FrX X) w σ s Q, ER2 X.K F w σ s → AP2 X.K F W σ w s.C.length (f s) Q → t σ w.H Q) (hl : ∀ s svs s', f s = .ok svs s' → svs.length + 1 = n)
    {Q : VK} (re : ER2 X.K F w σ s) (q : EP2 X.K F W σ w s.C.length (mk2 x g f s) Q) : tMakeA (He.ga X.K x) (sp2D X.K n g) (WE W) t σ w.H Q := by
  refine ha F w σ s _ re ?_
  rcases q.bind with ⟨svs, s1, e1, q⟩ | ⟨z1, z2, z3, z4⟩
  · rw [e1]
    intro vs w1 u1 l1 r1 q1 xa dx hx hd hn
    have q := EP2.grow l1 u1 q
    obtain ⟨c, r2⟩ := r1.new (cls := x) hx hd hn
    have hlen : s1.C.length ≤ (s1.C ++ [(⟨x, []⟩ : Cell)]).length := by rw [List.length_append]; exact Nat.le_add_right _ _
    refine ⟨by rw [List.length_cons, q1.length]; exact hl s svs s1 e1, _, _, _, rfl, r2.st, .cons (sv := .ref s1.C.length) ⟨?_, ?_⟩ (q1.mono hlen c.up), ?_⟩
    · show V.ref xa = V.ref (if s1.C.length = s1.C.length then xa else w1.μ s1.C.length)
      rw [if_pos rfl]
    · rw [List.length_append]
      exact Nat.lt_succ_self _
    · cases z : g (.ref s1.C.length :: svs) (s1.C ++ [⟨x, []⟩]) with
      | stuck => rw [z] at q; exact q.elim
      | exc y C' =>
        rw [z] at q
        exact fun w' c2 l2 st2 => q w' (c.up.trans c2.up hlen) (Nat.le_trans hlen l2) (r2.after c2 l2 st2)
      | ok r C' =>
        rw [z] at q
        cases r with
        | dat d =>
          cases d with
          | none =>
            intro v w' c2 l2 st2 rv
            have rv : R X.K w'.B v .none := rv
            cases rv
            refine ⟨rfl, q _ w' (c.up.trans c2.up hlen) (Nat.le_trans hlen l2) (r2.after c2 l2 st2) ⟨?_, ?_⟩⟩
            · rw [c2.m s1.C.length (by rw [List.length_append]; exact Nat.lt_succ_self _)]
              show V.ref xa = V.ref (if s1.C.length = s1.C.length then xa else w1.μ s1.C.length)
              rw [if_pos rfl]
            · exact Nat.lt_of_lt_of_le (by rw [List.length_append]; exact Nat.lt_succ_self _) l2
          | _ => exact q.elim
        | own d => exact q.elim
        | ref n => exact q.elim
        | exc => exact q.elim
  · rw [z3]
    exact z4
theorem e2_mk0 {x : Str} {p : Pos} {k : Nat} {ps : List Str} {g : List Sv → Store → F2} (kn : KnowsI X.prog X.w X.K X.mg X.base x k ps g) (hr : Room (k + 1) X.A) (hg : Gl X x) (tk : L2N.Takes X W)
    (hl : 1 = ps.length) (hdb : (x == ("__debug__" : Str)) = false := by decide) :
    DE2 X W (.Call (.Name x p) [] [] pos) (mk2 x g nil2) := by
  obtain ⟨hm, M, fd, F, b⟩ := kn
  refine fun Fr w σ s Q re q => ⟨_, pe_makeA0 M F hr hg hm b (fun σ => L2N.passAt tk σ) hdb, run_mk2 (f := nil2) (fun F w σ s Q re q => q [] w (.refl _ _) (Nat.le_refl _) re .nil) ?_ re q⟩
  intro s svs s' e
  cases e
  exact hl
/-! ### C(..), standing still from then on -/
def gNew (x : Str) (g : List Sv → Store → F2) : List PyData → M Sl := fun ds => match g (.ref 0 :: ds.map .dat) [⟨x, []⟩] with
  | .exc y _ => .exc y
  | .ok (.dat .none) C => (match resS true C 6 (.ref 0) with
    | some d => .ok (.dat d)
    | none => .stuck)
  | _ => .stuck
def rMk (C : Addr) (sp : Sp) (E : L2.St → XK) : L2.St → List V → Hp → VK → Prop := fun σ vs H1 Q => ∀ x dx, H1 x = none → H1 dx = none → dx ≠ x →
  sp (.ref x :: vs) (upd (upd H1 dx (.own x)) x (.ins C dx [])) (fun v H2 => v = .non ∧ Q (.ref x) H2) (E σ)
theorem cd_mk {x : Str} {n : Nat} {g : List Sv → Store → F2} {E : L2.St → XK} {σ : L2.St} {vs : List V} {ds : List PyData} {B H : Hp} {Q : VK} (hn : vs.length + 1 = n) (ex : Ex B H) (ra : RA X.K B vs ds) (q : EPost X.K (E σ) B H (gNew x g ds) Q) : rMk (He.ga X.K x) (sp2D X.K n g) E σ vs H Q := by
  intro xa dx hx hd hne
  have r0 : ER2 X.K ⟨⟨B, H, fun _ => 0, fun _ => none⟩, 0, 0⟩ ⟨B, H, fun _ => 0, fun _ => none⟩ [] ⟨[], []⟩ :=
    ⟨.refl _ _, Nat.le_refl _, ⟨ex, fun n c e => by simp at e, fun a o h => by simp at h, fun a o h => by simp at h⟩, rfl, fun i d e => by simp at e, fun i d e => by simp at e, fun i e => by simp at e, fun i n e => by simp at e, fun i j d e p h => by simp at h⟩
  obtain ⟨c, r1⟩ := r0.new (cls := x) hx hd hne
  refine ⟨by rw [List.length_cons]; exact hn, .ref 0 :: ds.map .dat, _, _, rfl, r1.st, .cons ⟨by simp, by simp⟩ (avs_dat ra), ?_⟩
  unfold gNew at q
  have key : ∀ (w' : Wd) (C' : Store), Chg ⟨B, upd (upd H dx (.own xa)) xa (.ins (He.ga X.K x) dx []), fun m => if m = 0 then xa else 0, fun a => if a = xa then some (.cell 0) else none⟩ 1 w' → SR X.K w' C' →
      (∀ a o, H a = some o → w'.H a = some o) ∧ (∀ a o, H a = some o → w'.Ω a = none) ∧ ∀ a o, H a = some o → B a = none → w'.B a = none ∨ ∃ xs, o = .tup xs := by
    intro w' C' c st
    have old : ∀ a u, H a = some u → upd (upd H dx (.own xa)) xa (.ins (He.ga X.K x) dx []) a = some u := fun a u h => by
      rw [upd_ne (ne_of_none h hx), upd_ne (ne_of_none h hd)]
      exact h
    have oo : ∀ a u, H a = some u → (if a = xa then some (Owner.cell 0) else none) = none := fun a u h => by rw [if_neg (ne_of_none h hx)]
    exact ⟨fun a o h => c.h a o (old a o h) (oo a o h), fun a o h => c.o a o (old a o h) (oo a o h), fun a o h b => c.l a o (old a o h) (oo a o h) b⟩
  have q' : FP2 X.K (E σ) ⟨B, upd (upd H dx (.own xa)) xa (.ins (He.ga X.K x) dx []), fun m => if m = 0 then xa else 0, fun a => if a = xa then some (.cell 0) else none⟩ 1 (g (.ref 0 :: ds.map .dat) [⟨x, []⟩]) (fun v H2 => v = .non ∧ Q (.ref xa) H2) := by
    cases z : g (.ref 0 :: ds.map .dat) [⟨x, []⟩] with
    | stuck => rw [z] at q; exact q.elim
    | exc y C' =>
      rw [z] at q
      exact fun w' c2 l2 st2 => q w'.H (key w' C' c2 st2).1
    | ok r C' =>
      rw [z] at q
      cases r with
      | own d => exact q.elim
      | ref n => exact q.elim
      | exc => exact q.elim
      | dat d =>
        cases d with
        | none =>
          intro v w' c2 l2 st2 rv
          have rv : R X.K w'.B v .none := rv
          cases rv
          refine ⟨rfl, ?_⟩
          have q : EPost X.K (E σ) B H (match resS true C' 6 (.ref 0) with
            | some d => .ok (.dat d)
            | none => .stuck) Q := q
          split at q
          · rename_i d hd
            obtain ⟨k1, k2, k3⟩ := key w' C' c2 st2
            have r2 : ER2 X.K ⟨w', C'.length, 0⟩ w' [] ⟨[], C'⟩ :=
              ⟨.refl _ _, Nat.le_refl _, st2, rfl, fun i d e => by simp at e, fun i d e => by simp at e, fun i e => by simp at e, fun i n e => by simp at e, fun i j d e p h => by simp at h⟩
            have rd := res_ok (b := true) r2 6 (.ref 0) d 0 "" (.ref (w'.μ 0)) hd (.ref (Nat.lt_of_lt_of_le (by decide) l2))
            have e0 : w'.μ 0 = xa := by rw [c2.m 0 (by decide)]; rfl
            rw [e0] at rd
            refine q (.ref xa) (pubB true w' [] []) w'.H ⟨Ex.trans c2.b (pub_ex r2), k1, pub_sub r2, fun a o h b => ?_⟩ rd
            unfold pubB
            rw [if_neg]
            · exact k3 a o h b
            · have no := k2 a o h
              rintro (⟨n, z⟩ | ⟨_, ⟨n, z⟩ | ⟨i, d, z, _⟩⟩)
              · rw [no] at z; cases z
              · rw [no] at z; cases z
              · simp at z
          · exact q.elim
        | _ => exact q.elim
  exact q'
theorem de_new {x : Str} {p : Pos} {k : Nat} {ps : List Str} {g : List Sv → Store → F2} {f : Env → M (List PyData)} (kn : KnowsI X.prog X.w X.K X.mg X.base x k ps g) (hr : Room (k + 1) X.A) (hg : Gl X x) (hx : Passes (L2N.CX X.prog X.w) X E)
    (h : DA X E (e :: es) f) (hl : ∀ ρ ds, f ρ = .ok ds → ds.length + 1 = ps.length) (hdb : (x == ("__debug__" : Str)) = false := by decide) (he : starEach (e :: es) X.env = (false, eval e X.env) :: starEach es X.env := by rfl) (hpl : (backTo pos (starEach es X.env)).any (·.1) = false := by rfl) :
    DE X E (.Call (.Name x p) (e :: es) [] pos) (eCall (gNew x g) f) := by
  obtain ⟨hm, M, fd, F, b⟩ := kn
  obtain ⟨t, pt, h⟩ := h
  refine ⟨_, pe_make M F hr hg hm b .nil hx pt hdb he hpl, fun B0 H0 B H σ ρ Q re q => ?_⟩
  refine run_a h re ?_
  rcases q.bind with ⟨ds, e1, q⟩ | ⟨x, e1, q⟩
  · refine .inl ⟨ds, e1, fun vs B1 H1 g1 r1 => ?_⟩
    have z := cd_mk (X := X) (n := ps.length) (E := fun _ => E) (σ := []) (by rw [r1.length]; exact hl ρ ds e1) g1.s r1 (q.grow g1)
    intro xa dx hx hd hn
    rw [List.append_nil]
    exact z xa dx hx hd hn
  · exact .inr ⟨x, e1, q⟩
end
/-! ### the law's own def -/
end Dl
/-! The data layer: sorted of a dict with tuples for keys; extend. -/
namespace Dl
open PySem PySem.Spec PyProof.Rows L2
section
variable {X : Cx} {E : XK}
/-- the value u is the tuple d, tracked in H -/
def IsKT (H : Hp) (v : V) (d : PyData) : Prop := ∃ (q : Addr) (ks : List Key), v = .ref q ∧ d = .tuple (ks.map keyD) ∧ H q = some (.tup (ks.map kV))
inductive IsKTs (H : Hp) : List V → List PyData → Prop
  | nil : IsKTs H [] []
  | cons {v : V} {vs : List V} {d : PyData} {ds : List PyData} : IsKT H v d → IsKTs H vs ds → IsKTs H (v :: vs) (d :: ds)
theorem of_eachK {H : Hp} {us : List Value} {ds : List PyData} (h : PySem.W.EachIs (fun u d => ∃ v, RelV v u ∧ IsKT H v d) us ds) : ∃ vs, Vals vs us ∧ IsKTs H vs ds := by
  induction h with
  | nil => exact ⟨[], .nil, .nil⟩
  | cons r t ih =>
    obtain ⟨v, r1, r2⟩ := r
    obtain ⟨vs, q1, q2⟩ := ih
    exact ⟨v :: vs, .cons r1 q1, .cons r2 q2⟩
theorem reads_key (h : Heap) : ∀ (ks : List Key) (us : List Value), Vals (ks.map kV) us → ReadsAll h us (ks.map keyD) []
  | [], _, .nil => .nil
  | .inl i :: ks, u :: us, .cons r t => by
    obtain ⟨t1, rfl⟩ := r
    exact .cons (as := []) (bs := []) (.int i t1) (reads_key h ks us t)
  | .inr x :: ks, u :: us, .cons r t => by
    obtain ⟨t1, rfl⟩ := r
    exact .cons (as := []) (bs := []) (.str x t1) (reads_key h ks us t)
theorem reads_kt {pins : List (Addr × Obj)} {σ : L2.St} {H : Hp} {s : Shared} {q : Addr} {ks : List Key} (I : Inv X pins σ H s) (h : H q = some (.tup (ks.map kV))) : Reads s.heap (.ref q) (.tuple (ks.map keyD)) [] := by
  obtain ⟨its, r, ⟨o, h1, h2, n, h3⟩, _⟩ := I.tuple (SqT.of h)
  exact .tuple h1 h2 h3 (reads_key _ _ _ (by simpa using r))
def keyData (kvs : List (List Key × V)) : List PyData := kvs.map fun p => PyData.tuple (p.1.map keyD)
def rSortDT (K : PySem.W.Frag) : List V → Hp → VK → Prop := fun vs H Q => ∃ (a : Addr) (kvs : List (List Key × V)), vs = [.ref a] ∧ H a = some (.dT kvs) ∧ srtOk (keyData kvs) = true ∧
  ∀ (ys : List V) (p : Addr), IsKTs H ys (srt (keyData kvs)) → H p = none → Q (.ref p) (upd H p (.lst ys))
theorem each_idx {us : List Value} {ds : List PyData} {R : Value → PyData → Prop} (hl : us.length = ds.length) (h : ∀ (j : Nat) u d, us[j]? = some u → ds[j]? = some d → R u d) : PySem.W.EachIs R us ds := by
  induction us generalizing ds with
  | nil => cases ds with
    | nil => exact .nil
    | cons d ds => cases hl
  | cons u us ih => cases ds with
    | nil => cases hl
    | cons d ds => exact .cons (h 0 u d rfl rfl) (ih (by simpa using hl) fun j u' d' e1 e2 => h (j + 1) u' d' (by simpa using e1) (by simpa using e2))
theorem cr_sortDT (hcalm : X.calm = true) (hu : X.A.units + 64 < cLine) : CallR X (.builtin "sorted") (rSortDT X.K) := by
  intro pins s σ H xs us Q I r h
  obtain ⟨a, kvs, rfl, ha, ok, q⟩ := h
  rw [Vals.ref1 r]
  obtain ⟨z, lo, xs, rel, o, es, ep, h1, h2, h3, h4, h5, h6⟩ := dt_rd I.hok (.inl ha)
  obtain ⟨o1, o2, o3⟩ := srtOk_ok ok
  have l1 : kvs.length = xs.length := Paired.length rel
  have l2 : es.size = kvs.length := by
    rw [← Array.length_toList, h4, List.length_map, l1]
  have hkl : (keyData kvs).length = kvs.length := by unfold keyData; rw [List.length_map]
  refine Calls.call_function_entry PyProof.Rows.kind_sorted PyProof.Rows.plain_sorted PyProof.Rows.entry_sorted (PyProof.Rows.args_sorted1 _) ?_
  unfold Builtin.«sorted»
  refine wpAny_bind (m := checkCount "sorted" 1 1 _) (wpAny_pure ?_)
  refine wpAny_bind (PySem.W.kdu_collect (A := X.A.in1) (PySem.KdlSrc.rawDict (es := es) (ep := ep) lo) (I.ok.hd hcalm) ⟨o, h1, h2, h3⟩ (by rw [l2]; exact z) fun h' tk acc hk hacc => ?_)
  have I1 : Inv X pins σ H { s with heap := h', toks := tk } := I.kept hk
  have hal : acc.toList.length = kvs.length := by rw [Array.length_toList, hacc.1, l2]
  have hS : PySem.W.EachIs (fun u d => ∃ v, RelV v u ∧ IsKT H v d) acc.toList (keyData kvs) := by
    refine each_idx (by rw [hal, hkl]) fun j u d e1 e2 => ?_
    obtain ⟨hi, e3⟩ := hacc.2 j u (by rw [← Array.getElem?_toList]; exact e1)
    have e4 : es.toList[j]? = some es[j] := by rw [Array.getElem?_toList]; exact Array.getElem?_eq_getElem hi
    rw [h4, List.getElem?_map] at e4
    cases e5 : xs[j]? with
    | none => rw [e5] at e4; cases e4
    | some x =>
      rw [e5] at e4
      obtain ⟨y, y1, y2, y3, _⟩ := L2.DX.pget rel e5
      unfold keyData at e2
      rw [List.getElem?_map, y1] at e2
      cases e2
      have e6 : entryOfKey (tupleKind (mixKind X.prog X.w)) x = es[j] := Option.some.inj e4
      refine ⟨.ref x.2.1, ?_, x.2.1, y.1, rfl, rfl, y3⟩
      rw [e3, ← e6]
      rfl
  refine wpAny_bind (wpAny_newList ?_ (by rw [hal]; exact z))
  have hoL : (h'.push (seqObj "list" acc.toList.toArray 0)).get? h'.objs.size = some (seqObj "list" acc.toList.toArray 0) := Heap.get?_push_size _ rfl
  have I2 : Inv X pins σ H { s with heap := h'.push (seqObj "list" acc.toList.toArray 0), toks := tk } := I1.kept fun b u e => Heap.get?_push_of_some _ e
  show wpAny _ _ _ _ _ { s with heap := h'.push (seqObj "list" acc.toList.toArray 0), toks := tk }
  have er : PySem.W.EachIs (fun v b => ∃ as, Reads (h'.push (seqObj "list" acc.toList.toArray 0)) v (id b) as ∧ h'.objs.size ∉ as) acc.toList (keyData kvs) := by
    refine hS.mono fun u d ⟨v, rv, q0, ks, ev, ed, hq⟩ => ?_
    subst ev
    cases (show u = Value.ref q0 from rv)
    rw [ed]
    exact ⟨[], reads_kt I2 hq, by simp⟩
  refine wpAny_bind (wpAny_holding ?_)
  refine PySem.W.list_sort_data (s := { s with heap := h'.push (seqObj "list" acc.toList.toArray 0), toks := tk }) (bs := keyData kvs) (enc := id) hoL hS er (by rw [List.map_id]; exact o1) (by rw [List.map_id]; exact o2) (by rw [hkl]; exact z) (fun d hd => ?_) fun out g1 g2 => ?_
  · have := (o3 d hd).2
    show X.A.units + 1 + 1 + d.depth < cLine
    omega
  · obtain ⟨ys, y1, y2⟩ := of_eachK g2
    obtain ⟨e', he'⟩ := PyProof.Rows.sortedHeap_at (vs := acc.toList) (out := out.toArray) hoL
    have hlen : ys.length ≤ sizeLine := by
      rw [y1.length, g1, hkl]
      exact z
    refine wpAny_pure ⟨_, rfl, .ref h'.objs.size, upd H h'.objs.size (.lst ys), I1.laid (t' := tk) (fun b u e => ?_) (Nat.le_refl _)
      (show ObjOk X.prog X.w _ _ _ (.lst ys) from ⟨hlen, out, e', y1, he'⟩), rfl, q ys _ y2 (I1.hok.fresh (Nat.le_refl _))⟩
    have hb : b < h'.objs.size := Heap.lt_size e
    rw [PyProof.Rows.sortedHeap_old (Nat.ne_of_lt hb) (by rw [size_push']; exact Nat.lt_succ_of_lt hb)]
    exact Heap.get?_push_of_some _ e
/-- the tuples of H that are not fixed yet become so -/
theorem fix_tups {B H : Hp} (e : Ex B H) : ∃ B', Gr B H B' H ∧ ∀ a xs, H a = some (.tup xs) → B' a = some (.tup xs) := by
  classical
  refine ⟨fun a => if ∃ xs, H a = some (.tup xs) then H a else B a, ⟨fun a o h => ?_, .refl _, fun a o h => ?_, fun a o h n => ?_⟩, fun a xs h => ?_⟩
  · show (if _ then H a else B a) = some o
    split
    · exact e a o h
    · exact h
  · have h : (if ∃ xs, H a = some (.tup xs) then H a else B a) = some o := h
    split at h
    · exact h
    · exact e a o h
  · by_cases t : ∃ xs, H a = some (.tup xs)
    · obtain ⟨xs, t⟩ := t
      rw [h] at t
      exact .inr ⟨xs, Option.some.inj t⟩
    · refine .inl ?_
      show (if _ then H a else B a) = none
      rw [if_neg t]
      exact n
  · show (if _ then H a else B a) = _
    rw [if_pos ⟨xs, h⟩]
    exact h
theorem ra_keys {K : PySem.W.Frag} {B : Hp} : ∀ ks : List Key, RA K B (ks.map kV) (ks.map keyD)
  | [] => .nil
  | .inl i :: ks => .cons (.int i) (ra_keys ks)
  | .inr x :: ks => .cons (.str x) (ra_keys ks)
theorem ra_kts {K : PySem.W.Frag} {H B' : Hp} (h : ∀ a xs, H a = some (.tup xs) → B' a = some (.tup xs)) {ys : List V} {ds : List PyData} (r : IsKTs H ys ds) : RA K B' ys ds := by
  induction r with
  | nil => exact .nil
  | cons r _ ih =>
    obtain ⟨q, ks, rfl, rfl, hq⟩ := r
    exact .cons (.tup (h _ _ hq) (ra_keys ks)) ih
def keysE (es : List (PyData × PyData)) : List PyData := es.map (·.1)
def gSortedT (ds : List PyData) : M Sl := match ds with
  | [.dict ((.bool true, .none) :: es)] => if srtOk (keysE es) = true then .ok (.own (.list (srt (keysE es)))) else .stuck
  | _ => .stuck
theorem keysE_ents {kvs : List (List Key × V)} {vs : List PyData} (h : kvs.length = vs.length) : keysE (entsT kvs vs) = keyData kvs := by
  unfold keysE entsT keyData
  rw [List.map_fst_zip (by rw [List.length_map, h]; exact Nat.le_refl _)]
theorem cd_sortDT : CallD X E (rSortDT X.K) gSortedT := by
  intro xs ds B H Q ex ra q
  unfold gSortedT at q
  split at q
  · rename_i es
    split at q
    · rename_i hok
      cases ra with
      | cons r t =>
        cases t
        obtain ⟨a, kvs, vs, rfl, ha, rv, rfl⟩ := ent_inv r
        have hl : kvs.length = vs.length := by simpa using rv.length
        rw [keysE_ents hl] at hok q
        refine ⟨a, kvs, rfl, ex _ _ ha, hok, fun ys p hy hp => ?_⟩
        obtain ⟨B', g, hB⟩ := fix_tups ex
        exact EPost.own g.s hp (.lst (ra_kts hB hy)) (q.grow g)
    · exact q.elim
  · exact q.elim
/-! ### xs.extend(ys) -/
def gExtend (l ds : List PyData) : Option (List PyData × PyData) := match ds with
  | [.list m] => if big (l.length + m.length) = true then some (l ++ m, .none) else none
  | _ => none
theorem mut_extend : MutU X rExtend gExtend := by
  intro p vs l xs ds l' d B H Q ho exb rl ra e k
  unfold gExtend at e
  split at e
  · split at e
    · rename_i hb
      cases e
      cases ra with
      | cons r1 r2 =>
        cases r2
        cases r1 with
        | lst h1 r1 => exact ⟨p, _, vs, _, rfl, rfl, ho, exb _ _ h1, by rw [rl.length, r1.length]; exact big_ok hb, k _ _ (rl.append r1) .non⟩
    · cases e
  · cases e
end
/-! ### dicts of the top: d[k], k in d, for written texts as keys -/
end Dl
/-! The data layer: dicts of the module's top with texts for keys; the hook that reads them. -/
namespace Dl
open PySem PySem.Spec PyProof.Rows L2
/-- the dict of the top at a holds the table: its keys and no others -/
def IsKd (K : PySem.W.Frag) (w : World) (mg : Str → Option Value) (x : Str) (tb : List (Str × He.Dv)) : Prop :=
  mg x = some (.ref (He.ga K x)) ∧ ∃ es n, KDict K w (He.ga K x) es n ∧ es.toList.map He.keyOf = He.keysIn w.params (tb.map (·.1)) ∧ He.valsB K (He.ga K x) tb = true
def dvD : He.Dv → Option PyData
  | .non => some .none
  | .bl b => some (.bool b)
  | .int i => some (.int i)
  | .str x => some (.str x)
  | _ => none
theorem dv_r {K : PySem.W.Frag} {H : Hp} {v : He.Dv} {d : PyData} (h : dvD v = some d) : R K H (v.v K) d := by
  cases v <;> cases h
  · exact .non
  · exact .bl _
  · exact .int _
  · exact .str _
theorem kd_some {K : PySem.W.Frag} {x z : Str} {tb : List (Str × He.Dv)} {d : He.Dv} (hv : He.valsB K (He.ga K x) tb = true) (hz : tb.lookup z = some d) : ∃ u, PySem.W.nsIn K (He.ga K x) z = some (some u) ∧ RelV (d.v K) u := by
  have hm : (z, d) ∈ tb := by
    clear hv
    induction tb with
    | nil => cases hz
    | cons p l ih =>
      obtain ⟨k, e⟩ := p
      by_cases h : z = k
      · subst h
        rw [List.lookup_cons_self] at hz
        cases hz
        exact List.mem_cons_self
      · have : (z == k) = false := by simpa using h
        rw [show List.lookup z ((k, e) :: l) = List.lookup z l by simp [List.lookup, this]] at hz
        exact List.mem_cons_of_mem _ (ih hz)
  exact He.valsB_ok hv hm
section
variable {X : Cx} {E : XK} {a b : Expr} {fb : Env → M Sl} {pos : Pos} {x : Str} {tb : List (Str × He.Dv)}
def lookKd (tb : List (Str × He.Dv)) (d : PyData) : M (Option PyData) := match d with
  | .str z => (match tb.lookup z with
    | some v => (match dvD v with
      | some d => .ok (some d)
      | none => .stuck)
    | none => .ok none)
  | _ => .stuck
/-- D[e], D written at the top -/
def eKdIx (tb : List (Str × He.Dv)) (f : Env → M Sl) : Env → M Sl := fun ρ => (f ρ).bind fun y => (lookKd tb y.d).bind fun r => match r with
  | some d => .ok (.dat d)
  | none => .stuck
theorem de_kdIx (hg : Gl X x) (h : IsKd X.K X.w X.mg x tb) (hb : DE X E b fb) (hs : PlainIx b) (hd : (x == ("__debug__" : Str)) = false := by decide) : DE X E (.Subscript (.Name x p2) b pos) (eKdIx tb fb) := by
  obtain ⟨hm, es, n, D, hk, hv⟩ := h
  obtain ⟨t, p, hb⟩ := hb
  refine ⟨_, pe_ix ix_kdict (pe_glob (v := .ref (He.ga X.K x)) hg hm rfl hd) p hs, fun B0 H0 B H σ ρ Q re q => ?_⟩
  refine run_e hb re ?_
  rcases q.bind with ⟨y, e1, q⟩ | ⟨y, e1, q⟩
  · refine .inl ⟨y, e1, fun v B1 H1 g1 r1 => ?_⟩
    have q := EPost.grow g1 q
    cases hy : y.d with
    | str z =>
      rw [hy] at q r1
      cases r1
      unfold lookKd at q
      simp only at q
      split at q
      · rename_i dv hl
        split at q
        · rename_i d hd2
          obtain ⟨u, hu, ru⟩ := kd_some hv hl
          exact ⟨_, z, dv.v X.K, rfl, rfl, ⟨es, n, u, D.at_, D.lit, hu, ru⟩, q.val g1.s (dv_r hd2)⟩
        · exact q.elim
      · exact q.elim
    | none => rw [hy] at q; exact q.elim
    | bool _ => rw [hy] at q; exact q.elim
    | int _ => rw [hy] at q; exact q.elim
    | list _ => rw [hy] at q; exact q.elim
    | tuple _ => rw [hy] at q; exact q.elim
    | dict _ => rw [hy] at q; exact q.elim
  · exact .inr ⟨y, e1, q⟩
end
/-! ### the hook -/
abbrev AlX : Type := He.AlT × Bool
def obsX (n : Nat) (fa : List He.Fa) (fn : List He.DefD) (ts : List He.Tab) (ex : PySem.W.Frag → Bool) (g : Addr → Option Obj) : AlX := (He.obsTG n fa fn ts g, ex (He.frG g (He.asD g n)))
def hookX (n : Nat) (fa : List He.Fa) (fn : List He.DefD) (ts : List He.Tab) (ex : PySem.W.Frag → Bool) : PySem.W.Hook where
  α := AlX
  obs s := obsX n fa fn ts ex s.heap.get?
  val w := (He.valT fn ts w, true)
  says w h := ∃ K : PySem.W.Frag, K.In h ∧ He.SaysT fa fn ts w K ∧ ex K = true
  of _ _ e := ⟨_, He.frG_in, congrArg (fun z : AlX => z.1) e, congrArg (fun z : AlX => z.2) e⟩
  keeps := fun _ _ _ y k => y.elim fun K z => ⟨K, PySem.W.Frag.In.keeps z.1 k, z.2⟩
theorem obsX_eq {n : Nat} {fa : List He.Fa} {fn : List He.DefD} {ts : List He.Tab} {ex : PySem.W.Frag → Bool} {g : Addr → Option Obj} {s : Shared} (h : ∀ a, g a = s.heap.get? a) : obsX n fa fn ts ex g = (hookX n fa fn ts ex).obs s := by
  rw [show g = s.heap.get? from funext h]
  rfl
/-- a table of the top, from what is observed -/
theorem kd_of {fa : List He.Fa} {fn : List He.DefD} {ts : List He.Tab} {w : World} {K : PySem.W.Frag} {mg : Str → Option Value} (c : He.SaysT fa fn ts w K) (i : Nat) {x : Str} {tb : List (Str × He.Dv)} (h : ts[i]? = some (fun K => He.ga K x, tb.map (·.1))) (hm : mg x = some (.ref (He.ga K x))) (hv : He.valsB K (He.ga K x) tb = true) : IsKd K w mg x tb := by
  refine ⟨hm, ?_⟩
  have e : ts.map (fun t => He.dicW K (t.1 K)) = ts.map fun t => some (He.keysIn w.params t.2) := congrArg (fun z : He.AlT => z.2) c
  have e2 : (ts.map fun t => He.dicW K (t.1 K))[i]? = (ts.map fun t => some (He.keysIn w.params t.2))[i]? := by rw [e]
  rw [List.getElem?_map, List.getElem?_map, h] at e2
  have e3 : He.dicW K (He.ga K x) = some (He.keysIn w.params (tb.map (·.1))) := Option.some.inj e2
  obtain ⟨es, n, D⟩ := He.dicW_ok e3
  refine ⟨es, n, D, ?_, hv⟩
  unfold He.dicW at e3
  rw [D.at_] at e3
  have low := D.low
  simp [low] at e3
  exact e3
end Dl
/-! Quiet statements: what stands in the heap stays. A loop over a list of one's own, not fixed. -/
namespace Dl
open PySem PySem.Spec PyProof.Rows L2
def SQ (K : PySem.W.Frag) (E : XK) (B0 H0 B H : Hp) (D : Ends) (o : O) : Prop := match o with
  | .stuck => False
  | .exc x => ∀ H', Ex H0 H' → E (.ref (He.ga K x)) none H'
  | .nx ρ => ∀ B' H' σ', Ex B B' → Ex H H' → ER K B0 H0 B' H' σ' ρ → D.nx σ' H'
  | .bk ρ => ∀ B' H' σ', Ex B B' → Ex H H' → ER K B0 H0 B' H' σ' ρ → D.bk σ' H'
  | .ct ρ => ∀ B' H' σ', Ex B B' → Ex H H' → ER K B0 H0 B' H' σ' ρ → D.ct σ' H'
  | .rt sl => ∀ v B' H', Gr B0 H0 B' H' → Res K H0 B' H' v sl → D.rt v H'
theorem SQ.grow {K : PySem.W.Frag} {E : XK} {B0 H0 B B1 H H1 : Hp} {D : Ends} {o : O} (e : Ex B B1) (e2 : Ex H H1) (h : SQ K E B0 H0 B H D o) : SQ K E B0 H0 B1 H1 D o := by
  cases o with
  | stuck => exact h
  | exc x => exact h
  | nx ρ => exact fun B2 H2 σ2 e3 e4 r => h B2 H2 σ2 (e.trans e3) (e2.trans e4) r
  | bk ρ => exact fun B2 H2 σ2 e3 e4 r => h B2 H2 σ2 (e.trans e3) (e2.trans e4) r
  | ct ρ => exact fun B2 H2 σ2 e3 e4 r => h B2 H2 σ2 (e.trans e3) (e2.trans e4) r
  | rt sl => exact h
end Dl
/-! sum of a list of whole numbers. -/
namespace Dl
open PySem PySem.Spec PyProof.Rows L2
section
variable {X : Cx} {E : XK}
def intsOf : List PyData → Option (List Int)
  | [] => some []
  | .int i :: ds => (intsOf ds).map (i :: ·)
  | _ => none
theorem intsOf_ints : ∀ ns : List Int, intsOf (ns.map PyData.int) = some ns
  | [] => rfl
  | n :: ns => by
    rw [List.map_cons, intsOf, intsOf_ints ns]
    rfl
def gSum (ds : List PyData) : M Sl := match ds with
  | [.list l] => (match intsOf l with
    | some ns => retI ns.sum
    | none => .stuck)
  | _ => .stuck
theorem gSum_ints (ns : List Int) : gSum [.list (ns.map PyData.int)] = retI ns.sum := by
  unfold gSum
  simp only [intsOf_ints]
end
end Dl
/-! Dicts with whole numbers or texts for keys: {}, d[k], d[k] = v, k in d; a dict told anew from another one. -/
namespace Dl
open PySem PySem.Spec PyProof.Rows L2
section
variable {X : Cx} {E : XK} {a b c e : Expr} {fa fb : Env → M Sl} {pos pos' : Pos}
def entsK (kvs : List (Key × V)) (vs : List PyData) : List (PyData × PyData) := (kvs.map fun p => keyD p.1).zip vs
def isKK (k : Key) (p : PyData × PyData) : Bool := decide (keyV p.1 = some k)
def getK (es : List (PyData × PyData)) (k : Key) : Option PyData := (es.find? (isKK k)).map (·.2)
def putD (es : List (PyData × PyData)) (k : Key) (d : PyData) : List (PyData × PyData) := if es.any (isKK k) = true then es.map (fun p => if isKK k p = true then (p.1, d) else p) else es ++ [(keyD k, d)]
theorem keyV_keyD (k : Key) : keyV (keyD k) = some k := by cases k <;> rfl
theorem isKK_ent (j k : Key) (d : PyData) : isKK k (keyD j, d) = decide (j = k) := by
  unfold isKK
  simp only [keyV_keyD, Option.some.injEq]
theorem entK_get {K : PySem.W.Frag} {H : Hp} (k : Key) : ∀ (kvs : List (Key × V)) (vs : List PyData), RA K H (kvs.map (·.2)) vs → (valV kvs k = none ∧ getK (entsK kvs vs) k = none) ∨ ∃ v d, valV kvs k = some v ∧ getK (entsK kvs vs) k = some d ∧ R K H v d
  | [], _, .nil => .inl ⟨rfl, rfl⟩
  | (j, v) :: kvs, d :: vs, .cons r q => by
    by_cases h : j = k
    · refine .inr ⟨v, d, valV_pos h, ?_, r⟩
      unfold getK entsK
      rw [List.map_cons, List.zip_cons_cons, List.find?_cons_of_pos (by rw [isKK_ent]; exact decide_eq_true h)]
      rfl
    · have e : getK (entsK ((j, v) :: kvs) (d :: vs)) k = getK (entsK kvs vs) k := by
        unfold getK entsK
        rw [List.map_cons, List.zip_cons_cons, List.find?_cons_of_neg (by rw [isKK_ent]; simpa using h)]
      rw [valV_neg h, e]
      exact entK_get k kvs vs q
theorem entK_any (k : Key) : ∀ (kvs : List (Key × V)) (vs : List PyData), kvs.length = vs.length → (kvs.any fun kv => decide (kv.1 = k)) = (entsK kvs vs).any (isKK k)
  | [], [], _ => rfl
  | (j, v) :: kvs, d :: vs, h => by
    unfold entsK
    rw [List.map_cons, List.zip_cons_cons, List.any_cons, List.any_cons, isKK_ent, entK_any k kvs vs (by simpa using h)]
    rfl
theorem RA.putK {K : PySem.W.Frag} {H : Hp} {v : V} {d : PyData} (k : Key) (rv : R K H v d) : ∀ (kvs : List (Key × V)) (vs : List PyData), RA K H (kvs.map (·.2)) vs →
    ∃ ws, RA K H ((kvs.map fun kv => if kv.1 = k then (kv.1, v) else kv).map (·.2)) ws ∧ entsK (kvs.map fun kv => if kv.1 = k then (kv.1, v) else kv) ws = (entsK kvs vs).map fun p => if isKK k p = true then (p.1, d) else p
  | [], _, .nil => ⟨[], .nil, rfl⟩
  | (j, w) :: kvs, e :: vs, .cons r q => by
    obtain ⟨ws, h1, h2⟩ := RA.putK k rv kvs vs q
    unfold entsK at h2 ⊢
    by_cases h : j = k
    · refine ⟨d :: ws, ?_, ?_⟩
      · simp only [List.map_cons, h, if_true]
        exact .cons rv h1
      · simp only [List.map_cons, List.zip_cons_cons, isKK_ent, h, decide_true, if_true, h2]
    · refine ⟨e :: ws, ?_, ?_⟩
      · simp only [List.map_cons, h, if_false]
        exact .cons r h1
      · simp only [List.map_cons, List.zip_cons_cons, isKK_ent, h, decide_false, if_false, Bool.false_eq_true, h2]
theorem entK_put {K : PySem.W.Frag} {H : Hp} {v : V} {d : PyData} {k : Key} {kvs : List (Key × V)} {vs : List PyData} (rv : R K H v d) (q : RA K H (kvs.map (·.2)) vs) : ∃ ws, RA K H ((L2.putK kvs k v).map (·.2)) ws ∧ entsK (L2.putK kvs k v) ws = putD (entsK kvs vs) k d := by
  have hl : kvs.length = vs.length := by simpa using q.length
  unfold L2.putK putD
  rw [entK_any k kvs vs hl]
  by_cases h : (entsK kvs vs).any (isKK k) = true
  · rw [if_pos h, if_pos h]
    exact RA.putK k rv kvs vs q
  · rw [if_neg h, if_neg h]
    refine ⟨vs ++ [d], by rw [List.map_append]; exact q.append (.cons rv .nil), ?_⟩
    unfold entsK
    rw [List.map_append, List.zip_append (by simpa using hl)]
    rfl
/-- a dict of such keys, told by its data -/
def isDK (es : List (PyData × PyData)) : Bool := match es with
  | [] => true
  | (.int _, _) :: _ => true
  | (.str _, _) :: _ => true
  | _ => false
theorem entK_inv {K : PySem.W.Frag} {H : Hp} {v : V} {es : List (PyData × PyData)} (r : R K H v (.dict es)) (h : isDK es = true) : ∃ a kvs vs, v = .ref a ∧ H a = some (.dK kvs) ∧ RA K H (kvs.map (·.2)) vs ∧ es = entsK kvs vs := by
  generalize hd : PyData.dict es = d at r
  cases r with
  | dK h r =>
    injection hd with hd
    exact ⟨_, _, _, rfl, h, r, hd⟩
  | dT h r =>
    injection hd with hd
    subst hd
    cases h
  | tupF h r =>
    injection hd with hd
    subst hd
    cases h
  | ins h r =>
    injection hd with hd
    subst hd
    cases h
  | scr h =>
    injection hd with hd
    subst hd
    cases h
  | lk hh r =>
    injection hd with hd
    subst hd
    cases h
  | lkK hh r =>
    injection hd with hd
    subst hd
    cases h
  | _ => cases hd
theorem topK_inv {K : PySem.W.Frag} {H : Hp} {o : HO} {es : List (PyData × PyData)} (r : Top K H o (.dict es)) (h : isDK es = true) : ∃ kvs vs, o = .dK kvs ∧ RA K H (kvs.map (·.2)) vs ∧ es = entsK kvs vs := by
  generalize hd : PyData.dict es = d at r
  cases r with
  | lst _ => cases hd
  | dK r =>
    injection hd with hd
    exact ⟨_, _, rfl, r, hd⟩
  | dT r =>
    injection hd with hd
    subst hd
    cases h
/-! ### {} -/
def eNewK : Env → M Sl := fun _ => .ok (.own (.dict []))
theorem de_newK : DE X E (.Dict [] [] pos) eNewK := ⟨_, pe_dnewK, fun B0 H0 B H σ ρ Q re q => fun p hp => EPost.own re.gr.s hp (.dK (kvs := []) (vs := []) .nil) q⟩
/-! ### d[k] -/
def gGetK (d e : PyData) : M Sl := match d with
  | .dict es => if isDK es = true then (match keyV e with
    | some k => (match getK es k with
      | some v => .ok (.dat v)
      | none => .stuck)
    | none => .stuck) else .stuck
  | _ => .stuck
theorem od_getK : OpD X E rGetT gGetK := by
  intro x y d e B H Q ex rx ry q
  unfold gGetK at q
  split at q
  · split at q
    · rename_i hdk
      split at q
      · rename_i k hk
        split at q
        · rename_i v hv
          have hy := keyV_ok ry hk
          obtain ⟨a, kvs, vs, rfl, ha, ra, rfl⟩ := entK_inv rx hdk
          rcases entK_get k kvs vs ra with ⟨_, h2⟩ | ⟨w, d', h1, h2, r⟩
          · rw [h2] at hv; cases hv
          · rw [h2] at hv
            cases hv
            exact ⟨a, w, rfl, by rw [← h1, hy]; exact DGet.k (ex _ _ ha), q.val ex r⟩
        · exact q.elim
      · exact q.elim
    · exact q.elim
  · exact q.elim
theorem de_getK (hu : X.A.units + 1 < cLine) (ha : DE X E a fa) (hb : DE X E b fb) (hs : NoSl b) : DE X E (.Subscript a b pos) (eOp gGetK fa fb) := by
  obtain ⟨ta, pa, ha⟩ := ha
  obtain ⟨tb, pb, hb⟩ := hb
  exact ⟨_, pe_dget hu pa pb hs, run_op od_getK ha hb⟩
/-! ### d[k] = e -/
def oPutK (i : Nat) (fe fi : Env → M Sl) : Env → O := fun ρ => oOf (fe ρ) fun x => match ρ[i]? with
  | some (some (.own (.dict es))) => if isDK es = true then oOf (fi ρ) fun y => (match keyV y.d with
    | some k => if big (es.length + 1) = true then .nx (ρ.set i (some (.own (.dict (putD es k x.d))))) else .stuck
    | none => .stuck) else .stuck
  | _ => .stuck
theorem ds_putK {i : Nat} {tpos : Pos} (hu : X.A.units + 1 < cLine) (h : DE X E e fa) (ho : PE X a (tVar i)) (hi : DE X E b fb) (hs : swapsWithSole [Expr.Subscript a b tpos] e pos.line X.env = pure false := by rfl) (hw : swappedStores [Expr.Subscript a b tpos] e X.env = pure none := by rfl)
    (h1 : (assignEach [Expr.Subscript a b tpos] X.env).map (·.2) = [assign (Expr.Subscript a b tpos) X.env] := by rfl)
    (hg : ∀ v, assign (.Subscript a b tpos) X.env v = (do
      let ov ← holding [v] (eval a X.env)
      let iv ← holding [v, ov] (eval b X.env)
      standAt tpos
      holding [v, ov, iv] (setItem ov iv v)
      release [v, ov, iv] []) := by intro _; rfl) : DS X E (.Assign [.Subscript a b tpos] e pos) (oPutK i fa fb) := by
  obtain ⟨t, p, h⟩ := h
  obtain ⟨ti, pi, hi⟩ := hi
  refine ⟨_, ps_asg p (pg_sub ho pi (set_dict hu) hg) hs hw h1, fun B0 H0 B H σ ρ D re q => ?_⟩
  refine h B0 H0 B H σ ρ _ re (epost_of re q fun sl _ q v B1 H1 g1 r => ?_)
  obtain ⟨B2, g2, r2⟩ := r.fix g1
  split at q
  · rename_i es hl
    split at q
    · rename_i hdk
      obtain ⟨p1, o, k1, k2, k3, k4, k5⟩ := re.own i _ hl
      refine ⟨_, k1, ?_⟩
      refine hi B0 H0 B2 H1 σ ρ _ (re.grow g2) (epost_of (re.grow g2) (SPost.grow g2.b q) fun sl2 _ q v2 B3 H3 g3 r3 => ?_)
      obtain ⟨B4, g4, r4⟩ := r3.fix g3
      split at q
      · rename_i k hk
        split at q
        · rename_i hb
          have g24 := g2.trans g4
          have hy := keyV_ok (r4.mono g4.s) hk
          have hp1 := g24.h p1 _ k4
          obtain ⟨kvs, vs, rfl, ra, rfl⟩ := topK_inv k5 hdk
          have nb : B4 p1 = none := g24.lm k4 k3 (fun _ h => nomatch h)
          obtain ⟨ws, w1, w2⟩ := entK_put (k := k) (r2.mono g4.b) (ra.mono g24.b)
          have hlen : kvs.length < sizeLine := by
            have e1 := ra.length
            have e2 := big_ok hb
            rw [List.length_map] at e1
            unfold entsK at e2
            rw [List.length_zip, List.length_map, e1, Nat.min_self] at e2
            rw [e1]
            omega
          refine ⟨p1, _, rfl, .inl ⟨kvs, k, hp1, hy, hlen, rfl⟩, ?_⟩
          refine q B4 _ σ g4.b ?_
          have hT : Top X.K B4 (.dK (L2.putK kvs k v)) (.dict (entsK (L2.putK kvs k v) ws)) := .dK w1
          rw [w2] at hT
          exact (re.grow g24).own_put hl k1 hp1 nb k2 hT
        · exact q.elim
      · exact q.elim
    · exact q.elim
  · exact q.elim
/-! ### k in d -/
def rInK (neg : Bool) : R2 := fun y x H Q => ∃ a o, x = .ref a ∧ DGet H a y o ∧ Q (.bl (if neg then !o.isSome else o.isSome)) H
theorem op_inK (hu : X.A.units + 1 < cLine) : OpR X (compareOp .In) (rInK false) := by
  intro pins s σ H x y v u Q I rx ry h
  obtain ⟨a, o, rfl, g, q⟩ := h
  cases (show u = Value.ref a from ry)
  exact d_in hu I g rx fun s' I' => ⟨.bl o.isSome, H, I', rfl, q⟩
theorem op_notInK (hu : X.A.units + 1 < cLine) : OpR X (compareOp .NotIn) (rInK true) := by
  intro pins s σ H x y v u Q I rx ry h
  obtain ⟨a, o, rfl, g, q⟩ := h
  cases (show u = Value.ref a from ry)
  exact d_notIn hu I g rx fun s' I' => ⟨.bl (!o.isSome), H, I', rfl, q⟩
def gInKB (d e : PyData) : M Bool := match e with
  | .dict es => if isDK es = true then (match keyV d with
    | some k => .ok (getK es k).isSome
    | none => .stuck) else .stuck
  | _ => .stuck
def gInK (d e : PyData) : M Sl := (gInKB d e).bind fun b => retB b
def gNotInK (d e : PyData) : M Sl := (gInKB d e).bind fun b => retB (!b)
theorem inK_cases {K : PySem.W.Frag} {neg : Bool} {x y : V} {d e : PyData} {B H : Hp} {Q : VK} {b : Bool} (ex : Ex B H) (rx : R K B x d) (ry : R K B y e) (h : gInKB d e = .ok b) (q : Q (.bl (if neg then !b else b)) H) : rInK neg x y H Q := by
  unfold gInKB at h
  split at h
  · split at h
    · rename_i hdk
      split at h
      · rename_i k hk
        cases h
        have hy := keyV_ok rx hk
        obtain ⟨a, kvs, vs, rfl, ha, ra, rfl⟩ := entK_inv ry hdk
        refine ⟨a, valV kvs k, rfl, by rw [hy]; exact DGet.k (ex _ _ ha), ?_⟩
        rcases entK_get k kvs vs ra with ⟨h1, h2⟩ | ⟨w, d', h1, h2, r⟩
        · rw [h2] at q
          rw [h1]
          exact q
        · rw [h2] at q
          rw [h1]
          exact q
      · cases h
    · cases h
  · cases h
theorem inKB_ne {d e : PyData} {x : Str} : gInKB d e ≠ .exc x := by
  unfold gInKB
  intro h
  split at h
  · split at h
    · split at h <;> cases h
    · cases h
  · cases h
theorem od_inK : OpD X E (rInK false) gInK := by
  intro x y d e B H Q ex rx ry q
  unfold gInK at q
  cases hb : gInKB d e with
  | stuck => rw [hb] at q; exact q.elim
  | exc z => exact (inKB_ne hb).elim
  | ok b =>
    rw [hb] at q
    exact inK_cases ex rx ry hb (q.val ex (.bl _))
theorem od_notInK : OpD X E (rInK true) gNotInK := by
  intro x y d e B H Q ex rx ry q
  unfold gNotInK at q
  cases hb : gInKB d e with
  | stuck => rw [hb] at q; exact q.elim
  | exc z => exact (inKB_ne hb).elim
  | ok b =>
    rw [hb] at q
    exact inK_cases ex rx ry hb (q.val ex (.bl _))
/-! ### for x in d: y[x] = c - d[x] -/
end
end Dl
/-! dict(..) of a list of pairs. -/
/-! Dicts with tuple keys: equal. -/
namespace PySem.W
open Lean Elab Tactic Meta PySem PySem.Calls PyProof.Rows PyProof.V PySem.Spec
end PySem.W
/-! x += e; sorted(set(rows)); reversed(range(n)); l.index(x). -/
namespace Dl
open PySem PySem.Spec PyProof.Rows L2
section
variable {X : Cx} {E : XK} {a b e : Expr} {fa fb : Env → M Sl} {pos : Pos}
/-! ### x += e -/
def oAug (i : Nat) (fa : Env → M Sl) : Env → O := fun ρ => match ρ[i]? with
  | some (some (.dat (.int a))) => oOf (fa ρ) fun sl => (match sl.d with
    | .int b => .nx (ρ.set i (some (.dat (.int (a + b)))))
    | _ => .stuck)
  | _ => .stuck
theorem ds_aug {i : Nat} {x : Str} {pos' : Pos} (hN : X.N.Nodup) (hi : X.N[i]? = some x) (hx : Loc X.env.scope x) (h : DE X E e fa) (hf : X.fn x = true ∨ X.env.scope.names.lookup x = some .local := by first | exact .inl rfl | exact .inr rfl | assumption) :
    DS X E (.AugAssign (.Name x pos') .Add e pos) (oAug i fa) := by
  obtain ⟨t, p, h⟩ := h
  refine ⟨_, ps_aug hN hi hx p ip_add hf, fun B0 H0 B H σ ρ D re q => ?_⟩
  unfold oAug at q
  split at q
  · rename_i n hn
    obtain ⟨v, h1, h2⟩ := re.dat i _ hn
    cases h2
    refine ⟨_, h1, ?_⟩
    refine h B0 H0 B H σ ρ _ re (epost_of re q fun sl hs q v B1 H1 g r => ?_)
    obtain ⟨B2, g2, r2⟩ := r.fix g
    split at q
    · rename_i m hm
      rw [hm] at r2
      cases r2
      exact ⟨_, _, rfl, rfl, q B2 H1 _ g2.b (re.put g2 (.int _))⟩
    · exact q.elim
  · exact q.elim
/-! ### rows -/
/-! ### reversed(range(n)) -/
/-! ### l.index(x) -/
end
end Dl
/-! min of two data, min of a list of whole numbers. -/
namespace PySem.W
open Lean Elab Tactic Meta PySem PySem.Calls PyProof.Rows PyProof.V PySem.Spec
end PySem.W
/-! dict(d) of a dict whose keys are tuples of whole numbers. -/
namespace PySem
open Sem (wp)
open SeqAt
end PySem
/-! self.f[i] = e for a list of one's own in a field. -/
/-! l[k], l a list of one's own in a slot, within a def with a store. -/
/-! own[i] = e within a def with a store; sep.join(a list of texts). -/
/-! y = [..] within a def with a store, the short way. -/
/-! l.count(x) of data. -/
/-! d.items() of a dict with tuple keys. -/
/-! [.. for k, v in d.items()] over a dict of one's own with tuple keys. -/
/-! The data layer: sorted(t) of a tuple of alike data. -/
namespace PySem.W
open PySem PySem.Calls PyProof.Rows PySem.Spec PySem.SeqAt
end PySem.W
/-! A comprehension within a comprehension. -/
/-! What is looked at behind the top's run, in less room: each object is met once. -/
/-! The top's run, looked at in two goes. -/
/-! The data layer: xs.extend(t) of a tuple. -/
/-! The data layer: list(range(a, b)), sorted(set(list of ints)). -/
/-! The layer with objects that change: a loop over a list of one's own, by quiet statements. -/
namespace Dl
open PySem PySem.Spec PyProof.Rows L2
section
def SQ2 (K : PySem.W.Frag) (F : Fr) (W : WX) (w : Wd) (L : Nat) (D : Ends) (o : O2) : Prop := match o with
  | .stuck => False
  | .exc x s' => ∀ w' σ', Up w L w' → L ≤ s'.C.length → ER2 K F w' σ' s' → W (.ref (He.ga K x)) none σ' w'.H
  | .nx s' => ∀ w' σ', Up w L w' → L ≤ s'.C.length → Ex w.H w'.H → ER2 K F w' σ' s' → D.nx σ' w'.H
  | .bk s' => ∀ w' σ', Up w L w' → L ≤ s'.C.length → Ex w.H w'.H → ER2 K F w' σ' s' → D.bk σ' w'.H
  | .ct s' => ∀ w' σ', Up w L w' → L ≤ s'.C.length → Ex w.H w'.H → ER2 K F w' σ' s' → D.ct σ' w'.H
  | .rt sv s' => ∀ v w' σ', Up w L w' → L ≤ s'.C.length → ER2 K F w' σ' s' → VR K F w' σ' s' v sv → D.rt v w'.H
theorem SQ2.up {K : PySem.W.Frag} {F : Fr} {W : WX} {w w1 : Wd} {L : Nat} {D : Ends} {o : O2} (u : Up w L w1) (e : w1.H = w.H) (h : SQ2 K F W w L D o) : SQ2 K F W w1 L D o := by
  cases o with
  | stuck => exact h
  | exc x s => exact fun w' σ' u1 l r => h w' σ' (u.trans u1 (Nat.le_refl _)) l r
  | nx s => exact fun w' σ' u1 l x r => h w' σ' (u.trans u1 (Nat.le_refl _)) l (e ▸ x) r
  | bk s => exact fun w' σ' u1 l x r => h w' σ' (u.trans u1 (Nat.le_refl _)) l (e ▸ x) r
  | ct s => exact fun w' σ' u1 l x r => h w' σ' (u.trans u1 (Nat.le_refl _)) l (e ▸ x) r
  | rt sv s => exact fun v w' σ' u1 l r q => h v w' σ' (u.trans u1 (Nat.le_refl _)) l r q
variable {X : Cx} {W : WX} {E : XK} {F : FrX X} {w : Wd} {σ : L2.St} {s : S2} {e a o : Expr} {es : List Expr} {pos : Pos} {st : Stmt} {rest : List Stmt} {g h : S2 → O2} {fa : Env → M Sl}
end
end Dl
/-! The data layer: abs, int, str of a whole number. -/
/-! The data layer: a text split at another. -/
/-! y = [..] within a def with a store, the short way. -/
/-! A built-in called with what a def with a store tells. -/
/-! raise X(..) from None within an except suite: defs that let out an exception with a context. -/
namespace Dl
open PySem PySem.Spec PyProof.Rows L2
theorem passN {X : Cx} : Passes (L2N.CX X.prog X.w) X E0 := fun _ _ _ _ _ _ _ h => by
  obtain ⟨a, B, H', cls, d, _, _, _, _, _, _, _, hE⟩ := h
  exact hE.elim
/-! ### such defs -/
end Dl
/-! A cell's own lists are fixed: what it held may then be told on. -/
/-! [.. for x in it], where the walked thing comes from a call that looks into the store. -/
/-! D.get(e), D a dict of the top with texts for keys. -/
/-! Lists and tuples of what a def with a store tells; min of a tuple of whole numbers; str of a text. -/
/-! list.remove, of data. -/
namespace Dl
open PySem PySem.Spec PyProof.Rows L2
section
variable {X : Cx}
def rRemD (K : PySem.W.Frag) : V → List V → Hp → VK → Prop := fun x xs H Q => ∃ (p : Addr) (y : V) (d : PyData) (vs : List V) (ds : List PyData) (j : Nat), x = .ref p ∧ xs = [y] ∧ H p = some (.lst vs) ∧ DpAll K H vs ds ∧ Dp K H y d ∧ SeqAt.shaped (.list ds) = true ∧ SeqAt.shaped d = true ∧ (ds.findIdx? fun z => PyData.eqv z d) = some j ∧ Q .non (upd H p (.lst (vs.eraseIdx j)))
theorem mt_removeD (hu : X.A.units + 65 < cLine) : MtR X "list.remove" (rRemD X.K) := by
  intro pins s σ H x xs v us Q I rx rxs h
  obtain ⟨p, y, d, vs, ds, j, rfl, rfl, hH, hv, hy, sl, sd, hj, q⟩ := h
  cases rx
  obtain ⟨uy, rfl, ry⟩ := rxs.one
  obtain ⟨bs, r1⟩ := Dp.reads I d y uy hy ry
  have hxs : PyData.canLayAll0 ds = true := SeqAt.canLay_of_shaped sl
  have hroom : X.A.units + 1 + min (PyData.depthAll ds) d.depth < cLine := room_in_shaped sd hu
  obtain ⟨z, its, n, r, hl, e⟩ := I.lstM hH
  obtain ⟨as, h4⟩ := Dp.readsAll I ds _ its hv r
  have hmap : its.map (SeqAt.readOf s.heap) = ds := SeqAt.readsAll_map ds its as hxs h4
  obtain ⟨hjl, hit, hno⟩ := List.findIdx?_eq_some_iff_getElem.mp hj
  have hlen : its.length = ds.length := by rw [← hmap, List.length_map]
  have at_ : ∀ (i : Nat) (h1 : i < its.toArray.size) (h2 : i < ds.length), PyData.eqv (SeqAt.readOf s.heap its.toArray[i]) d = PyData.eqv ds[i] d := by
    intro i h1 h2
    have : ds[i] = SeqAt.readOf s.heap its[i] := by
      subst hmap
      rw [List.getElem_map]
    rw [this]
    simp
  refine call_meets PySem.F.slot_list_remove ⟨_, e, rfl⟩ PySem.F.entry_list_remove (PySem.F.args_list_remove_2 _ _)
    (SeqAt.list_removeAt p its.toArray n none #[] uy (fun u => PyData.eqv (SeqAt.readOf s.heap u) d) j (by rw [List.size_toArray]; omega) ?_ ?_ (by rw [List.size_toArray]; omega)) ⟨e, SeqAt.items_eqAt (vs := its.toArray) (by simpa using h4) r1 hxs (SeqAt.canLay_of_shaped sd) hroom, ?_⟩
  · rw [at_ j (by rw [List.size_toArray]; omega) hjl]
    exact hit
  · intro m hm hmj
    have := hno m hmj
    rw [at_ m hm (by omega)]
    simpa using this
  · have rr := r.eraseIdx j
    refine ⟨.non, _, I.lset (its' := its.eraseIdx j) (t' := s.toks) hH e ?_ rr ?_, rfl, q⟩
    · show its.toArray.eraseIdxIfInBounds j = (its.eraseIdx j).toArray
      rw [List.eraseIdxIfInBounds_toArray]
    · have := List.length_eraseIdx_le vs j
      omega
def gRemove (l ds : List PyData) : Option (List PyData × PyData) := match ds with
  | [d] => if (SeqAt.shaped (.list l) && SeqAt.shaped d) = true then (l.findIdx? fun z => PyData.eqv z d).map fun j => (l.eraseIdx j, .none) else none
  | _ => none
theorem mut_remove : MutU X (rRemD X.K) gRemove := by
  intro p vs l xs ds l' d B H Q ho exb rl ra e k
  unfold gRemove at e
  split at e
  · rename_i d0
    split at e
    · rename_i hs
      rw [Bool.and_eq_true] at hs
      cases hj : l.findIdx? fun z => PyData.eqv z d0 with
      | none => rw [hj] at e; cases e
      | some j =>
        rw [hj] at e
        cases e
        cases ra with
        | cons r1 r2 =>
          cases r2
          exact ⟨p, _, d0, vs, l, j, rfl, rfl, ho, (rl.mono exb).dp (SeqAt.canLay_of_shaped hs.1), (r1.mono exb).dp (SeqAt.canLay_of_shaped hs.2), hs.1, hs.2, hj, k _ _ (rl.eraseIdx _) .non⟩
    · cases e
  · cases e
end
end Dl
/-! str.replace of written texts within a test, behind a statement that gives out a token. -/
namespace Dl
open PySem PySem.Spec PyProof.Rows L2
def wST (X : Cx) (st : Stmt) : TS := fun D σ H => ∃ t, PST X st t ∧ t D σ H
def wSsT (X : Cx) (st : List Stmt) : TS := fun D σ H => ∃ t, PSsT X st t ∧ t D σ H
def DS2T (X : Cx) (W : WX) (st : Stmt) (f : S2 → O2) : Prop := ∀ (F : FrX X) w σ s D, ER2 X.K F w σ s → SP2 X.K F W w s.C.length D (f s) → wST X st D σ w.H
def DSs2T (X : Cx) (W : WX) (sts : List Stmt) (f : S2 → O2) : Prop := ∀ (F : FrX X) w σ s D, ER2 X.K F w σ s → SP2 X.K F W w s.C.length D (f s) → wSsT X sts D σ w.H
section
variable {X : Cx} {W : WX} {F : FrX X} {w : Wd} {σ : L2.St} {s : S2} {e a b o c : Expr} {es : List Expr} {f f1 f2 : S2 → M2 Sv} {pos : Pos} {st : Stmt} {rest : List Stmt} {g h : S2 → O2}
theorem DS2T.of (h : DS2 X W st g) : DS2T X W st g := fun F w σ s D re q => by
  obtain ⟨t, p, k⟩ := h F w σ s D re q
  exact ⟨t, PST.of p, k⟩
theorem DSs2T.of (h : DSs2 X W rest g) : DSs2T X W rest g := fun F w σ s D re q => by
  obtain ⟨t, p, k⟩ := h F w σ s D re q
  exact ⟨t, PSsT.of p, k⟩
/-! ### a text behind which a token is out -/
/-! ### e.replace(y, z) -/
end
end Dl
/-! The top's run, looked at in three goes; a comprehension over a store call that takes its name's place. -/
/-! The data layer: str.replace of written texts, behind an item of the same list that gives out a token. -/
namespace Dl
open PySem PySem.Spec PyProof.Rows L2
def DET (X : Cx) (E : XK) (e : Expr) (f : Env → M Sl) : Prop := ∃ t, PET X e t ∧ ∀ B0 H0 B H σ ρ Q, ER X.K B0 H0 B H σ ρ → EPost X.K E B H (f ρ) Q → t σ H Q
section
variable {X : Cx} {E : XK} {e a o : Expr} {es : List Expr} {te ta : TE} {t : TA} {pos : Pos} {f fa : Env → M Sl} {g : Env → M (List PyData)}
theorem DET.of (h : DE X E e f) : DET X E e f := by
  obtain ⟨t, p, k⟩ := h
  exact ⟨t, CwR.PET.of p, k⟩
end
end Dl
/-! `for t in [fresh lists ..]: t.append(0); t.reverse()`: lists that nobody reads any more. -/
/-! `x, y = f(script, numbers)`: the list in the tuple that a def gives is new, and so one's own. -/
/-! A dict with plain keys that an expression walks: locked meanwhile. -/
namespace Dl
open PySem PySem.Spec PyProof.Rows L2
section
variable {K : PySem.W.Frag} {B B' : Hp}
mutual
theorem R.immT (h : ∀ a xs, B a = some (.tup xs) → B' a = some (.tup xs)) : ∀ {v : V} {d : PyData}, R K B v d → imm d = true → R K B' v d
  | _, _, .non, _ => .non
  | _, _, .bl b, _ => .bl b
  | _, _, .int i, _ => .int i
  | _, _, .str x, _ => .str x
  | _, _, .lst _ _, i => by simp [imm] at i
  | _, _, .tup hs r, i => .tup (h _ _ hs) (RA.immT h r (by simpa [imm] using i))
  | _, _, .tupF _ _, i => by simp [imm] at i
  | _, _, .dK _ _, i => by simp [imm] at i
  | _, _, .dT _ _, i => by simp [imm] at i
  | _, _, .ins _ _, i => by simp [imm] at i
  | _, _, .scr _, i => by simp [imm] at i
  | _, _, .lk _ _, i => by simp [imm] at i
  | _, _, .lkK _ _, i => by simp [imm] at i
theorem RA.immT (h : ∀ a xs, B a = some (.tup xs) → B' a = some (.tup xs)) : ∀ {vs : List V} {ds : List PyData}, RA K B vs ds → immA ds = true → RA K B' vs ds
  | _, _, .nil, _ => .nil
  | _, _, .cons r q, i => by
    rw [immA, Bool.and_eq_true] at i
    exact .cons (R.immT h r i.1) (RA.immT h q i.2)
end
end
/-- the data of a locked dict with plain keys -/
abbrev lkD (es : List (PyData × PyData)) : PyData := .dict ((.bool false, .none) :: es)
theorem lkD_inv {K : PySem.W.Frag} {H : Hp} {v : V} {es : List (PyData × PyData)} (r : R K H v (lkD es)) : ∃ a o kvs vs, v = .ref a ∧ H a = some (.frz o (.dK kvs)) ∧ RA K H (kvs.map (·.2)) vs ∧ es = entsK kvs vs := by
  generalize hd : lkD es = d at r
  cases r with
  | lkK h r =>
    injection hd with hd
    injection hd with _ hd
    subst hd
    exact ⟨_, _, _, _, rfl, h, r, rfl⟩
  | lk h r =>
    injection hd with hd
    injection hd with hd _
    injection hd with _ hd
    cases hd
  | tupF h r =>
    injection hd with hd
    injection hd with hd _
    injection hd with _ hd
    cases hd
  | dK h r =>
    rename_i kvs vs
    injection hd with hd
    cases kvs with
    | nil => cases hd
    | cons kv kvs =>
      cases vs with
      | nil => cases hd
      | cons v vs =>
        injection hd with hd _
        injection hd with hd _
        obtain ⟨k, _⟩ := kv
        cases k <;> cases hd
  | dT h r =>
    injection hd with hd
    injection hd with hd _
    injection hd with hd _
    cases hd
  | ins h r =>
    injection hd with hd
    injection hd with hd _
    injection hd with hd _
    cases hd
  | scr h =>
    injection hd with hd
    injection hd with hd _
    injection hd with hd _
    cases hd
  | _ => cases hd
section
variable {X : Cx} {E : XK} {a b e tg : Expr} {fa fb : Env → M Sl} {pos : Pos}
def gGetL (d e : PyData) : M Sl := match d with
  | .dict ((.bool false, .none) :: es) => (match keyV e with
    | some k => (match getK es k with
      | some v => .ok (.dat v)
      | none => .stuck)
    | none => .stuck)
  | _ => .stuck
theorem od_getL : OpD X E rGetT gGetL := by
  intro x y d e B H Q ex rx ry q
  unfold gGetL at q
  split at q
  · split at q
    · rename_i k hk
      split at q
      · rename_i v hv
        have hy := keyV_ok ry hk
        obtain ⟨a, o, kvs, vs, rfl, ha, ra, rfl⟩ := lkD_inv rx
        rcases entK_get k kvs vs ra with ⟨_, h2⟩ | ⟨w, d', h1, h2, r⟩
        · rw [h2] at hv; cases hv
        · rw [h2] at hv
          cases hv
          exact ⟨a, w, rfl, by rw [← h1, hy]; exact .inl ⟨kvs, k, .inr ⟨o, ex _ _ ha⟩, rfl, rfl⟩, q.val ex r⟩
      · exact q.elim
    · exact q.elim
  · exact q.elim
theorem de_getL (hu : X.A.units + 1 < cLine) (ha : DE X E a fa) (hb : DE X E b fb) (hs : NoSl b) : DE X E (.Subscript a b pos) (eOp gGetL fa fb) := by
  obtain ⟨ta, pa, ha⟩ := ha
  obtain ⟨tb, pb, hb⟩ := hb
  exact ⟨_, pe_dget hu pa pb hs, run_op od_getL ha hb⟩
/-- what is walked: the keys -/
def keysL : PyData → M (List PyData)
  | .dict ((.bool false, .none) :: es) => .ok (es.map (·.1))
  | _ => .stuck
def iKeysL (i : Nat) : Env → M (List PyData) := fun ρ => (eVar i ρ).bind fun x => keysL x.d
theorem di_keysL {i : Nat} (h : PE X e (tVar i)) : DI X E tg e (iKeysL i) := by
  refine ⟨_, pi_keys h, fun B0 H0 B H σ ρ Q re q => ?_⟩
  unfold iKeysL eVar at q
  split at q
  · rename_i d hd
    obtain ⟨v, h1, h2⟩ := re.dat i d hd
    rw [bind_ok, Sl.d_dat] at q
    unfold keysL at q
    split at q
    · rename_i es
      obtain ⟨a, o, kvs, vs, rfl, ha, ra, rfl⟩ := lkD_inv h2
      have hH := re.gr.s _ _ ha
      refine ⟨_, h1, a, o, rfl, .inl ⟨kvs, hH, q (Itk a o kvs) B H (.refl re.gr.s) ?_⟩⟩
      have hl : kvs.length = vs.length := by have := ra.length; rw [List.length_map] at this; exact this
      have hl2 : ((entsK kvs vs).map (·.1)).length = kvs.length := by
        unfold entsK
        rw [List.length_map, List.length_zip, List.length_map, hl, Nat.min_self]
      refine ⟨_, _, by rw [hl2]; exact walk_keys, fun B1 H1 e1 e2 => e2 _ _ (e1 _ _ ha), ?_⟩
      rintro i B1 H1 v H2 hi e1 e2 ⟨rfl, k, w, hk, rfl⟩
      refine ⟨B1, keyD k, ?_, .refl e2, by cases k <;> first | exact .int _ | exact .str _⟩
      have hv : i < vs.length := by
        rw [← hl]
        exact (List.getElem?_eq_some_iff.1 hk).1
      have hz : (entsK kvs vs)[i]? = some (keyD k, vs[i]) := by
        unfold entsK
        exact List.getElem?_zip_eq_some.2 ⟨by rw [List.getElem?_map, hk]; rfl, List.getElem?_eq_getElem hv⟩
      rw [List.getElem?_map, hz]
      rfl
    · exact q.elim
  · exact q.elim
def immE : Option Sl → Option Sl
  | some (.dat d) => if imm d = true then some (.dat d) else none
  | _ => none
def lkEnv (ρ : Env) (i : Nat) (es : List (PyData × PyData)) : Env := (ρ.map immE).set i (some (.dat (lkD es)))
/-- the dict in slot i is locked while e is told -/
def eLk (i : Nat) (f : Env → M Sl) : Env → M Sl := fun ρ => match ρ[i]? with
  | some (some (.dat (.dict es))) => if (isDK es && immA (es.map (·.2))) = true then (match f (lkEnv ρ i es) with
    | .ok (.dat d) => if imm d = true then .ok (.dat d) else .stuck
    | _ => .stuck) else .stuck
  | _ => .stuck
theorem de_lk {i : Nat} (h : DE X E e fa) : DE X E e (eLk i fa) := by
  obtain ⟨t, p, h⟩ := h
  refine ⟨_, pe_lock p, fun B0 H0 B H σ ρ Q re q => ?_⟩
  unfold eLk at q
  split at q
  · rename_i es hi
    split at q
    · rename_i hc
      rw [Bool.and_eq_true] at hc
      obtain ⟨hdk, hia⟩ := hc
      obtain ⟨v, hv, rv⟩ := re.dat i _ hi
      obtain ⟨a, kvs, vs, rfl, ha, ra, rfl⟩ := entK_inv rv hdk
      have haH := re.gr.s _ _ ha
      have hl : kvs.length = vs.length := by have := ra.length; rw [List.length_map] at this; exact this
      have hvs : (entsK kvs vs).map (·.2) = vs := by
        unfold entsK
        rw [List.map_snd_zip (by rw [List.length_map]; omega)]
      rw [hvs] at hia
      split at q
      · rename_i d hf
        split at q
        · rename_i hd
          refine ⟨a, .dK kvs, haH, trivial, fun od => ?_⟩
          have tp : ∀ c xs, B c = some (.tup xs) → upd B a (.frz od (.dK kvs)) c = some (.tup xs) := fun c xs z => by
            rw [upd_ne (fun e => by rw [e, ha] at z; cases z)]
            exact z
          have eL : Ex (upd B a (.frz od (.dK kvs))) (upd H a (.frz od (.dK kvs))) := fun c o z => by
            by_cases w : c = a
            · rw [w, upd_same] at z ⊢
              exact z
            · rw [upd_ne w] at z ⊢
              exact re.gr.s c o z
          have reL : ER X.K (upd B a (.frz od (.dK kvs))) (upd H a (.frz od (.dK kvs))) (upd B a (.frz od (.dK kvs))) (upd H a (.frz od (.dK kvs))) σ (lkEnv ρ i (entsK kvs vs)) := by
            have no : ∀ (j : Nat) c, (lkEnv ρ i (entsK kvs vs))[j]? ≠ some (some (.own c)) := by
              intro j c z
              unfold lkEnv at z
              by_cases w : i = j
              · subst w
                have hl : i < (ρ.map immE).length := by
                  have := (List.getElem?_eq_some_iff.mp z).1
                  simpa using this
                rw [List.getElem?_set_self hl] at z
                cases z
              · rw [List.getElem?_set_ne w, List.getElem?_map] at z
                cases y : ρ[j]? with
                | none => rw [y] at z; cases z
                | some o =>
                  rw [y] at z
                  injection z with z
                  unfold immE at z
                  split at z
                  · split at z <;> cases z
                  · cases z
            refine ⟨.refl eL, by unfold lkEnv; rw [List.length_set, List.length_map]; exact re.len, fun j c z => ?_, fun j c z => (no j c z).elim, fun j k c _ _ z => (no j c z).elim⟩
            unfold lkEnv at z
            by_cases w : i = j
            · subst w
              have hl : i < (ρ.map immE).length := by
                have := (List.getElem?_eq_some_iff.mp z).1
                simpa using this
              rw [List.getElem?_set_self hl] at z
              cases z
              exact ⟨_, hv, .lkK upd_same (ra.immT tp hia)⟩
            · rw [List.getElem?_set_ne w, List.getElem?_map] at z
              cases y : ρ[j]? with
              | none => rw [y] at z; cases z
              | some o =>
                rw [y] at z
                injection z with z
                unfold immE at z
                split at z
                · split at z
                  · rename_i hm
                    cases z
                    obtain ⟨v, k1, k2⟩ := re.dat j _ y
                    exact ⟨v, k1, k2.immT tp hm⟩
                  · cases z
                · cases z
          refine h _ _ _ _ σ _ _ reL ?_
          rw [hf]
          intro v B' H' g r
          have hB' := g.b a _ upd_same
          have hH' := g.s _ _ hB'
          refine ⟨hH', q v (upd B' a (.dK kvs)) _ ⟨fun c o z => ?_, fun c o z => ?_, fun c o z => ?_, fun c o z n => ?_⟩ (r.immT (fun c xs z => ?_) hd)⟩
          · by_cases w : c = a
            · rw [w, upd_same, ← z, w, ha]
            · rw [upd_ne w]
              exact g.b c o (by rw [upd_ne w]; exact z)
          · by_cases w : c = a
            · rw [w, upd_same, ← z, w, haH]
            · rw [upd_ne w]
              exact g.h c o (by rw [upd_ne w]; exact z)
          · by_cases w : c = a
            · rw [w, upd_same] at z ⊢
              exact z
            · rw [upd_ne w] at z ⊢
              exact g.s c o z
          · have w : c ≠ a := fun w => by rw [w, ha] at n; cases n
            rw [upd_ne w]
            exact g.l c o (by rw [upd_ne w]; exact z) (by rw [upd_ne w]; exact n)
          · rw [upd_ne (fun w => by rw [w, hB'] at z; cases z)]
            exact z
        · exact q.elim
      · exact q.elim
    · exact q.elim
  · exact q.elim
end
end Dl
namespace Dl
open PySem PySem.Spec PyProof.Rows L2
def o_law_pair_up : Env → O :=
  (oRet (eIf (tOf (eOp (gCmp .LtE) (eVar 0) (eVar 1))) (eTup (aCons (eVar 0) (aCons (eVar 1) aNil))) (eTup (aCons (eVar 1) (aCons (eVar 0) aNil)))))
def f_law_pair_up : List PyData → M Sl := fnO 2 2 o_law_pair_up
def o_law_whole : Env → O :=
  (oRet (eAndV (eIsi "int" (eVar 0)) (eNotV (eIsi "bool" (eVar 0)))))
def f_law_whole : List PyData → M Sl := fnO 1 1 o_law_whole
def o_mixed_at : Env → O :=
  (oRet (eLc (iAr (aCons (eVar 0) aNil) enumOf) [1, 2] (bTup 2 (bCons (bN 1) (bCons (bN 2) bNil))) (tOf (eOp gEq (eVar 2) (eC (.int 2)))) (eVar 1)))
def f_mixed_at : List PyData → M Sl := fnO 1 3 o_mixed_at
def o_law_seen : Env → O :=
  (oSeq (oSet 2 (eLst aNil))
    (oSeq (oForE (iAr (aCons (eCall gLen (aCons (eVar 0) aNil)) aNil) rng1Of) (bN 3) (oMutS (mMut 2 gAppend (aCons (eIf (tOf (eOp gEq (eOp gIx (eVar 0) (eVar 3)) (eOp gIx (eVar 1) (eVar 3)))) (eOp gIx (eVar 0) (eVar 3)) (eC (.int 2))) aNil))))
    (oFix [2] (oRet (eCall gTuple (aCons (eVar 2) aNil))))))
def f_law_seen : List PyData → M Sl := fnO 2 4 o_law_seen
def o_law_row : Env → O :=
  (oSeq (oSet 3 (eLst aNil))
    (oSeq (oIf (tOf (eOp (gCmp .GtE) (eVar 0) (eOp gPow (eC (.int 10)) (eC (.int 18))))) (oSeq (oSet 6 (eOp gSub (eVar 0) (eOp gPow (eC (.int 10)) (eC (.int 18)))))
    (oSeq (oForE (iAr (aCons (eVar 1) aNil) rng1Of) (bN 5) (oSeq (oMutS (mMut 3 gAppend (aCons (eOp gMod (eVar 6) (eVar 2)) aNil)))
    (oSet 6 (eOp gDiv (eVar 6) (eVar 2)))))
    (oRetV 3))) oNx)
    (oSeq (oSet 4 (eOp gMod (eVar 0) (eC (.int 2147483647))))
    (oSeq (oForE (iAr (aCons (eVar 1) aNil) rng1Of) (bN 5) (oSeq (oSet 4 (eOp gMod (eOp gAdd (eOp gAdd (eOp gMul (eVar 4) (eC (.int 48271))) (eC (.int 12345))) (eVar 5)) (eC (.int 2147483647))))
    (oSeq (oSet 7 (eOp gMod (eOp gDiv (eOp gMul (eVar 4) (eOp gAdd (eOp gMod (eVar 4) (eC (.int 65521))) (eC (.int 3)))) (eC (.int 1009))) (eC (.int 1000003))))
    (oMutS (mMut 3 gAppend (aCons (eOp gMod (eVar 7) (eVar 2)) aNil))))))
    (oRetV 3)))))
def f_law_row : List PyData → M Sl := fnO 3 8 o_law_row
def o_law_cell : Env → O :=
  (oSeq (oIf (tOf (eOp (gCmp .Lt) (eVar 1) (eCall gLen (aCons (eVar 0) aNil)))) (oRet (eOp gIx (eVar 0) (eVar 1))) oNx)
    (oRet (eC (.int 0))))
def f_law_cell : List PyData → M Sl := fnO 2 2 o_law_cell
def o_changed_mark : Env → O :=
  (oSeq (oIf (tOf (eOp gEq (eVar 0) (eC (.int 2)))) (oRet (eC (.int 2))) oNx)
    (oRet (eOp gMod (eOp gAdd (eVar 0) (eVar 1)) (eC (.int 2)))))
def f_changed_mark : List PyData → M Sl := fnO 2 2 o_changed_mark
def o_against : Env → O :=
  (oRet (eCall gTuple (aCons (eLc (iAr (aCons (eVar 0) (aCons (eVar 1) aNil)) zipOf) [2, 3] (bTup 2 (bCons (bN 2) (bCons (bN 3) bNil))) (fun _ => .ok true) (eCall f_changed_mark (aCons (eVar 2) (aCons (eVar 3) aNil)))) aNil)))
def f_against : List PyData → M Sl := fnO 2 4 o_against
def o_law_against : Env → O :=
  (oSeq (oSet 2 (eLst aNil))
    (oSeq (oForE (iAr (aCons (eCall gLen (aCons (eVar 1) aNil)) aNil) rng1Of) (bN 3) (oIf (tOf (eOp gEq (eOp gIx (eVar 0) (eVar 3)) (eC (.int 2)))) (oMutS (mMut 2 gAppend (aCons (eC (.int 2)) aNil))) (oMutS (mMut 2 gAppend (aCons (eIf (tOf (eOp gEq (eOp gIx (eVar 0) (eVar 3)) (eOp gIx (eVar 1) (eVar 3)))) (eC (.int 0)) (eC (.int 1))) aNil)))))
    (oFix [2] (oRet (eCall gTuple (aCons (eVar 2) aNil))))))
def f_law_against : List PyData → M Sl := fnO 2 4 o_law_against
def o_ways_of_mark : Env → O :=
  (oSeq (oIf (tOf (eOp gEq (eVar 0) (eC (.int 2)))) (oRet (eLst (aCons (eC (.int 0)) (aCons (eC (.int 1)) aNil)))) oNx)
    (oRet (eLst (aCons (eVar 0) aNil))))
def f_ways_of_mark : List PyData → M Sl := fnO 1 1 o_ways_of_mark
def o_shows : Env → O :=
  (oSeq (oIf (tAndF (tOf (eOp gEq (eOp gIx (eVar 0) (eVar 1)) (eC (.int 2)))) (tOf (eOp gEq (eOp gIx (eVar 0) (eVar 2)) (eC (.int 2))))) (oRet (eLst aNil)) oNx)
    (oSeq (oSet 3 (eLst aNil))
    (oSeq (oForE (iOf (eCall f_ways_of_mark (aCons (eOp gIx (eVar 0) (eVar 1)) aNil))) (bN 4) (oForE (iOf (eCall f_ways_of_mark (aCons (eOp gIx (eVar 0) (eVar 2)) aNil))) (bN 5) (oMutS (mMut 3 gAppend (aCons (eTup (aCons (eVar 4) (aCons (eVar 5) aNil))) aNil)))))
    (oRetV 3))))
def f_shows : List PyData → M Sl := fnO 3 6 o_shows
def o_pairs_of : Env → O :=
  (oSeq (oSet 1 (eLst aNil))
    (oSeq (oForE (iAr (aCons (eVar 0) aNil) enumOf) (bTup 2 (bCons (bN 2) (bCons (bN 3) bNil))) (oForE (iOf (eSl (eVar 0) (sSome (eOp gAdd (eVar 2) (eC (.int 1)))) sNone)) (bN 4) (oMutS (mMut 1 gAppend (aCons (eTup (aCons (eVar 3) (aCons (eVar 4) aNil))) aNil)))))
    (oRetV 1)))
def f_pairs_of : List PyData → M Sl := fnO 1 5 o_pairs_of
def o_has_all : Env → O :=
  (oRet (eCall (gAllAny fun bs => bs.all id) (aCons (eLc (fun _ => .ok [(fz [(.int 0), (.int 1)]), (fz [(.int 1), (.int 0)]), (fz [(.int 1), (.int 1)])]) [1] (bN 1) (fun _ => .ok true) (eOp gInT (eVar 1) (eVar 0))) aNil)))
def f_has_all : List PyData → M Sl := fnO 1 2 o_has_all
def o_shown_by : Env → O :=
  (oSeq (oSet 3 eNewT)
    (oSeq (oForE (iOf (eVar 0)) (bTup 2 (bCons (bN 4) (bCons (bN 5) bNil))) (oForE (iOf (eCall f_shows (aCons (eVar 5) (aCons (eVar 1) (aCons (eVar 2) aNil))))) (bN 6) (oIf (tPub (tOf (eOp gNotInT (eVar 6) (eVar 3)))) (oPutT 3 (eVar 4) (eVar 6)) oNx)))
    (oRetV 3)))
def f_shown_by : List PyData → M Sl := fnO 3 7 o_shown_by
def o_law_flip : Env → O :=
  (oRet (eOp gAdd (eOp gAdd (eSl (eVar 0) sNone (sSome (eVar 1))) (eTup (aCons (eOp gSub (eC (.int 1)) (eOp gIx (eVar 0) (eVar 1))) aNil))) (eSl (eVar 0) (sSome (eOp gAdd (eVar 1) (eC (.int 1)))) sNone)))
def f_law_flip : List PyData → M Sl := fnO 2 2 o_law_flip
def o_law_grown : Env → O :=
  (oSeq (oSet 2 (eLst (aCons (eVar 0) aNil)))
    (oSeq (oSet 3 (eLstRg1 (eCall gLen (aCons (eVar 0) aNil))))
    (oSeq (oForE (iOf (eCall f_law_row (aCons (eVar 1) (aCons (eCall gLen (aCons (eVar 0) aNil)) (aCons (eC (.int 840)) aNil))))) (bN 4) (oSeq (oMutA 5 (mMut 3 gPopAt (aCons (ePub (eOp gMod (eVar 4) (eCall gLen (aCons (eVar 3) aNil)))) aNil)))
    (oSeq (oIf (tOf (eOp gEq (eOp gMod (eOp gDiv (eVar 4) (eC (.int 8))) (eC (.int 7))) (eC (.int 6)))) oCt oNx)
    (oIf (tPub (tAndF (tOf (eOp gEq (eOp gMod (eOp gDiv (eVar 4) (eC (.int 8))) (eC (.int 7))) (eC (.int 5)))) (tOf (eOp (gCmp .Gt) (eCall gLen (aCons (eVar 2) aNil)) (eC (.int 1)))))) (oMutS (mMutM 2 gAppend (amCons (mCall f_law_flip (amCons (mMut 2 gPop aNil) (aCons (eVar 5) aNil))) aNil))) (oMutS (mMut 2 gAppend (aCons (ePub (eCall f_law_flip (aCons (eOp gIx (eVar 2) (eOp gMod (eOp gDiv (eVar 4) (eC (.int 56))) (eCall gLen (aCons (eVar 2) aNil)))) (aCons (eVar 5) aNil)))) aNil)))))))
    (oRetV 2))))
def f_law_grown : List PyData → M Sl := fnO 2 6 o_law_grown
def o_unlike : Env → O :=
  (oSeq (oSet 2 (eLc (iOf (eVar 0)) [3] (bN 3) (tOf (eOp gNotIn (eVar 3) (eVar 1))) (eVar 3)))
    (oFix [2] (oRet (eCall gSorted (aCons (eOp gAdd (eVar 2) (eLc (iOf (eVar 1)) [3] (bN 3) (tOf (eOp gNotIn (eVar 3) (eVar 0))) (eVar 3))) aNil)))))
def f_unlike : List PyData → M Sl := fnO 2 4 o_unlike
def o_summed : Env → O :=
  (oRet (eTup (aCons (eCall f_unlike (aCons (eOp gIx (eVar 0) (eC (.int 0))) (aCons (eOp gIx (eVar 1) (eC (.int 0))) aNil))) (aCons (eOp gMod (eOp gAdd (eOp gIx (eVar 0) (eC (.int 1))) (eOp gIx (eVar 1) (eC (.int 1)))) (eC (.int 2))) (aCons (eCall f_unlike (aCons (eOp gIx (eVar 0) (eC (.int 2))) (aCons (eOp gIx (eVar 1) (eC (.int 2))) aNil))) aNil)))))
def f_summed : List PyData → M Sl := fnO 2 2 o_summed
def o_Sums_lessened : Env → O :=
  (oSeq (oForE (iOf (eUn (gFld "Sums" "kept") (eVar 0))) (bN 2) (oIf (tOf (eOp gIn (eOp gIx (eOp gIx (eVar 2) (eC (.int 0))) (eUn gNeg (eC (.int 1)))) (eOp gIx (eVar 1) (eC (.int 0))))) (oSet 1 (eCall f_summed (aCons (eVar 1) (aCons (eVar 2) aNil)))) oNx))
    (oRet (eVar 1)))
def f_Sums_lessened : List PyData → M Sl := fnO 2 3 o_Sums_lessened
def o2_Sums_take : S2 → O2 :=
  (o2Seq (o2Set 4 (pub false (eMeth "Sums" "lessened" f_Sums_lessened (eVar 0) (aCons (eTup (aCons (eCall gSorted (aCons (eVar 1) aNil)) (aCons (eVar 2) (aCons (eLst (aCons (eVar 3) aNil)) aNil)))) aNil))))
    (o2Seq (o2If (liftT (tOf (eOp gEq (eCall gLen (aCons (eOp gIx (eVar 4) (eC (.int 0))) aNil)) (eC (.int 0))))) (o2Seq (o2If (liftT (tOf (eOp gEq (eOp gIx (eVar 4) (eC (.int 1))) (eC (.int 1))))) (o2Ret (lift (eOp gIx (eVar 4) (eC (.int 2))))) o2Nx)
    (o2Ret (lift (eC .none)))) o2Nx)
    (o2Seq (o2Set 5 (lift (eOp gIx (eOp gIx (eVar 4) (eC (.int 0))) (eUn gNeg (eC (.int 1))))))
    (o2Seq (o2Set 6 (lift (eLst aNil)))
    (o2Seq (o2ForE (iOf2 (pub false (eUn (gFld "Sums" "kept") (eVar 0)))) (b2N 7) (o2Seq (o2If (liftT (tOf (eOp gIn (eVar 5) (eOp gIx (eVar 7) (eC (.int 0)))))) (o2Set 7 (lift (eCall f_summed (aCons (eVar 7) (aCons (eVar 4) aNil))))) o2Nx)
    (o2Exp (mutS2 6 gAppend (cons1 (fun s => (eVar 7) (hide s.ρ)) nil1)))))
    (o2Seq (o2Fix [6] (o2Fld "Sums" 0 "kept" (fz2 (lift (eOp gAdd (eVar 6) (eLst (aCons (eVar 4) aNil)))))))
    (o2Ret (lift (eC .none)))))))))
def f2_Sums_take : List Sv → Store → F2 := fn2 4 8 o2_Sums_take
def o_sum_of : Env → O :=
  (oSeq (oIf (tOf (eOp gEq (eOp gIx (eVar 0) (eC (.int 0))) (eC (.str "three")))) (oRet (eTup (aCons (eLst (aCons (eTup (aCons (eOp gIx (eVar 0) (eC (.int 2))) (aCons (eOp gIx (eVar 0) (eC (.int 3))) aNil))) (aCons (eTup (aCons (eOp gIx (eVar 0) (eC (.int 2))) (aCons (eOp gIx (eVar 0) (eC (.int 4))) aNil))) (aCons (eTup (aCons (eOp gIx (eVar 0) (eC (.int 3))) (aCons (eOp gIx (eVar 0) (eC (.int 4))) aNil))) aNil)))) (aCons (eC (.int 0)) aNil)))) oNx)
    (oSeq (oIf (tOf (eOp gEq (eOp gIx (eVar 0) (eC (.int 0))) (eC (.str "joined")))) (oRet (eTup (aCons (eLst (aCons (eTup (aCons (eOp gIx (eVar 0) (eC (.int 1))) (aCons (eOp gIx (eVar 0) (eC (.int 2))) aNil))) aNil)) (aCons (eC (.int 0)) aNil)))) oNx)
    (oSeq (oIf (tOf (eOp gEq (eOp gIx (eVar 0) (eC (.int 0))) (eC (.str "parted")))) (oRet (eTup (aCons (eLst (aCons (eTup (aCons (eOp gIx (eVar 0) (eC (.int 1))) (aCons (eOp gIx (eVar 0) (eC (.int 2))) aNil))) aNil)) (aCons (eC (.int 1)) aNil)))) oNx)
    (oRet (eTup (aCons (eLst (aCons (eTup (aCons (eOp gIx (eVar 0) (eC (.int 2))) (aCons (eOp gIx (eVar 0) (eC (.int 3))) aNil))) aNil)) (aCons (eKdIx [("together", .int 0), ("apart", .int 1)] (eOp gIx (eVar 0) (eC (.int 4)))) aNil)))))))
def f_sum_of : List PyData → M Sl := fnO 1 1 o_sum_of
def o_live_pairs : Env → O :=
  (oSeq (oSet 1 eNewT)
    (oSeq (oForE (iOf (eVar 0)) (bTup 2 (bCons (bN 2) (bCons (bN 3) bNil))) (oForE (iOf (eCall f_pairs_of (aCons (eCall f_mixed_at (aCons (eVar 3) aNil)) aNil))) (bN 4) (oPutT 1 (eC (.bool true)) (eVar 4))))
    (oFix [1] (oRet (eCall gSortedT (aCons (eVar 1) aNil))))))
def f_live_pairs : List PyData → M Sl := fnO 1 5 o_live_pairs
def o_forced : Env → O :=
  (oSeq (oSet 1 (eLst aNil))
    (oSeq (oForE (iOf (eCall f_live_pairs (aCons (eVar 0) aNil))) (bTup 2 (bCons (bN 2) (bCons (bN 3) bNil))) (oSeq (oSet 4 (eCall f_shown_by (aCons (eVar 0) (aCons (eVar 2) (aCons (eVar 3) aNil)))))
    (oFix [4] (oIf (tOf (eOp gInT (eTup (aCons (eC (.int 1)) (aCons (eC (.int 1)) aNil))) (eVar 4))) (oFix [4] (oMutS (mMut 1 gAppend (aCons (eTup (aCons (eC (.str "joined")) (aCons (eVar 2) (aCons (eVar 3) (aCons (eOp gGetT (eVar 4) (eTup (aCons (eC (.int 1)) (aCons (eC (.int 1)) aNil)))) aNil))))) aNil)))) (oFix [4] (oIf (tAndF (tOf (eOp gInT (eTup (aCons (eC (.int 0)) (aCons (eC (.int 1)) aNil))) (eVar 4))) (tOf (eOp gInT (eTup (aCons (eC (.int 1)) (aCons (eC (.int 0)) aNil))) (eVar 4)))) (oFix [4] (oMutS (mMut 1 gAppend (aCons (eTup (aCons (eC (.str "parted")) (aCons (eVar 2) (aCons (eVar 3) (aCons (eOp gGetT (eVar 4) (eTup (aCons (eC (.int 0)) (aCons (eC (.int 1)) aNil)))) (aCons (eOp gGetT (eVar 4) (eTup (aCons (eC (.int 1)) (aCons (eC (.int 0)) aNil)))) aNil)))))) aNil)))) oNx))))))
    (oRetV 1)))
def f_forced : List PyData → M Sl := fnO 1 5 o_forced
def o_threes : Env → O :=
  (oSeq (oSet 2 (eCall f_mixed_at (aCons (eVar 1) aNil)))
    (oSeq (oFix [2] (oIf (tOf (eOp gEq (eCall gLen (aCons (eVar 2) aNil)) (eC (.int 0)))) (oRet (eLst aNil)) oNx))
    (oFix [2] (oRet (eLc (iOf (eCall f_pairs_of (aCons (eSl (eVar 2) (sSome (eC (.int 1))) sNone) aNil))) [3, 4] (bTup 2 (bCons (bN 3) (bCons (bN 4) bNil))) (fun _ => .ok true) (eTup (aCons (eC (.str "three")) (aCons (eVar 0) (aCons (eOp gIx (eVar 2) (eC (.int 0))) (aCons (eVar 3) (aCons (eVar 4) aNil)))))))))))
def f_threes : List PyData → M Sl := fnO 2 5 o_threes
def o_facts_of : Env → O :=
  (oSeq (oSet 2 (eLst aNil))
    (oSeq (oForE (iOf (eVar 0)) (bTup 2 (bCons (bN 3) (bCons (bN 4) bNil))) (oMutS (mMut 2 gExtend (aCons (eCall f_threes (aCons (eVar 3) (aCons (eVar 4) aNil))) aNil))))
    (oSeq (oMutS (mMut 2 gExtend (aCons (eCall f_forced (aCons (eVar 0) aNil)) aNil)))
    (oSeq (oForE (iOf (eVar 1)) (bTup 4 (bCons (bN 3) (bCons (bN 5) (bCons (bN 6) (bCons (bN 7) bNil))))) (oMutS (mMut 2 gAppend (aCons (eTup (aCons (eC (.str "said")) (aCons (eVar 3) (aCons (eVar 5) (aCons (eVar 6) (aCons (eVar 7) aNil)))))) aNil))))
    (oRetV 2)))))
def f_facts_of : List PyData → M Sl := fnO 2 8 o_facts_of
def o_clash : Env → O :=
  (oSeq (oForE (iOf (eCall f_pairs_of (aCons (eLstRg1 (eVar 1)) aNil))) (bTup 2 (bCons (bN 2) (bCons (bN 3) bNil))) (oSeq (oSet 4 (eCall f_shown_by (aCons (eVar 0) (aCons (eVar 2) (aCons (eVar 3) aNil)))))
    (oFix [4] (oIf (tOf (eCall f_has_all (aCons (eVar 4) aNil))) (oFix [4] (oRet (eTup (aCons (eC (.str "clash")) (aCons (eVar 2) (aCons (eVar 3) (aCons (eOp gGetT (eVar 4) (eTup (aCons (eC (.int 0)) (aCons (eC (.int 1)) aNil)))) (aCons (eOp gGetT (eVar 4) (eTup (aCons (eC (.int 1)) (aCons (eC (.int 0)) aNil)))) (aCons (eOp gGetT (eVar 4) (eTup (aCons (eC (.int 1)) (aCons (eC (.int 1)) aNil)))) aNil))))))))) oNx))))
    (oRet (eC .none)))
def f_clash : List PyData → M Sl := fnO 2 5 o_clash
def o2_Joints_looked : S2 → O2 :=
  (o2Seq (o2Set 1 (pub false (eCall f_clash (aCons (eUn (gFld "Joints" "told") (eVar 0)) (aCons (eCall gLen (aCons (eUn (gFld "Joints" "base") (eVar 0)) aNil)) aNil)))))
    (o2Seq (o2If (liftT (tOf (eOp gNotN (eVar 1) (eC .none)))) (o2Ret (lift (eVar 1))) o2Nx)
    (o2Seq (o2Set 2 (pub false (eCall f_facts_of (aCons (eUn (gFld "Joints" "told") (eVar 0)) (aCons (eUn (gFld "Joints" "said") (eVar 0)) aNil)))))
    (o2Seq (o2Fix [2] (o2ForE (liftI (iAr (aCons (eVar 2) aNil) enumOf)) (b2Tup 2 (b2Cons (b2N 3) (b2Cons (b2N 4) b2Nil))) (o2Seq (o2Asg (lift (eCall f_sum_of (aCons (eVar 4) aNil))) (b2Tup 2 (b2Cons (b2N 6) (b2Cons (b2N 7) b2Nil))))
    (o2Seq (o2Set 5 (methS2 "Sums" "take" f2_Sums_take (fldRef 0 "Joints" "sums") (cons2 (lift (eVar 6)) (cons2 (lift (eVar 7)) (cons2 (lift (eVar 3)) nil2)))))
    (o2If (liftT (tOf (eOp gNotN (eVar 5) (eC .none)))) (o2Fix [2] (o2Ret (lift (eTup (aCons (eC (.str "odd")) (aCons (eCall gTuple (aCons (eLc (iOf (eVar 5)) [8] (bN 8) (fun _ => .ok true) (eOp gIx (eVar 2) (eVar 8))) aNil)) aNil)))))) o2Nx)))))
    (o2Ret (lift (eC .none)))))))
def f2_Joints_looked : List Sv → Store → F2 := fn2 1 9 o2_Joints_looked
def o2_Sums_init__ : S2 → O2 :=
  (o2Fld "Sums" 0 "kept" (fz2 (lift (eLst aNil))))
def f2_Sums_init__ : List Sv → Store → F2 := fn2 1 1 o2_Sums_init__
def o2_Joints_init__ : S2 → O2 :=
  (o2Seq (o2Fld "Joints" 0 "base" (fz2 (lift (eVar 1))))
    (o2Seq (o2Fld "Joints" 0 "folk" (fz2 (lift (eVar 2))))
    (o2Seq (o2Fld "Joints" 0 "said" (fz2 (lift (eVar 3))))
    (o2Seq (o2Fld "Joints" 0 "told" (fz2 (lift (eLc (iOf (eVar 2)) [4, 5] (bTup 2 (bCons (bN 4) (bCons (bN 5) bNil))) (fun _ => .ok true) (eTup (aCons (eVar 4) (aCons (eCall f_against (aCons (eVar 5) (aCons (eVar 1) aNil))) aNil)))))))
    (o2Seq (o2Fld "Joints" 0 "pairs" (fz2 (pub false (eCall f_live_pairs (aCons (eUn (gFld "Joints" "told") (eVar 0)) aNil)))))
    (o2Seq (o2Fld "Joints" 0 "sums" (fz2 (mk2 "Sums" f2_Sums_init__ nil2)))
    (o2Fld "Joints" 0 "paper" (fz2 (methS2 "Joints" "looked" f2_Joints_looked (eRef 0) nil2)))))))))
def f2_Joints_init__ : List Sv → Store → F2 := fn2 4 6 o2_Joints_init__
def o_law_name : Env → O :=
  (oSeq (oSet 2 (eC (.str "abcdefghijklmnopqrstuvwxyz")))
    (oSeq (oIf (tOf (eOp gEq (eOp gMod (eVar 0) (eC (.int 2))) (eC (.int 0)))) (oRet (eOp gMul (eOp gIx (eVar 2) (eOp gMod (eOp gDiv (eVar 0) (eC (.int 2))) (eC (.int 26)))) (eOp gAdd (eC (.int 1)) (eOp gMod (eOp gAdd (eOp gMul (eC (.int 7)) (eVar 1)) (eOp gDiv (eVar 0) (eC (.int 52)))) (eC (.int 12)))))) oNx)
    (oSeq (oSet 3 (eOp gAdd (eC (.int 1)) (eOp gMod (eOp gDiv (eVar 0) (eC (.int 2))) (eC (.int 12)))))
    (oSeq (oSet 4 (eOp gMul (eOp gIx (eVar 2) (eOp gMod (eOp gDiv (eVar 0) (eC (.int 24))) (eC (.int 26)))) (eVar 3)))
    (oSeq (oSet 5 (eOp gMod (eOp gDiv (eVar 0) (eC (.int 624))) (eVar 3)))
    (oSeq (oSet 6 (eOp gIx (eVar 2) (eOp gMod (eOp gAdd (eOp gDiv (eVar 0) (eC (.int 7488))) (eOp gMul (eC (.int 5)) (eVar 1))) (eC (.int 26)))))
    (oRet (eOp gAdd (eOp gAdd (eSl (eVar 4) sNone (sSome (eVar 5))) (eVar 6)) (eSl (eVar 4) (sSome (eOp gAdd (eVar 5) (eC (.int 1)))) sNone)))))))))
def f_law_name : List PyData → M Sl := fnO 2 7 o_law_name
def o_law_founder : Env → O :=
  (oRet (eCall gTuple (aCons (eCall f_law_row (aCons (eVar 0) (aCons (eVar 1) (aCons (eC (.int 2)) aNil)))) aNil)))
def f_law_founder : List PyData → M Sl := fnO 2 2 o_law_founder
def o_law_true : Env → O :=
  (oSeq (oSet 4 (eCall f_law_cell (aCons (eVar 0) (aCons (eVar 1) aNil))))
    (oSeq (oSet 5 (eOp gAdd (eC (.int 1)) (eOp gMod (eVar 4) (eVar 2))))
    (oSeq (oSet 6 (eCall f_law_founder (aCons (eCall f_law_cell (aCons (eVar 0) (aCons (eOp gAdd (eVar 1) (eC (.int 1))) aNil))) (aCons (eVar 5) aNil))))
    (oSeq (oSet 7 (eCall f_law_grown (aCons (eVar 6) (aCons (eCall f_law_cell (aCons (eVar 0) (aCons (eOp gAdd (eVar 1) (eC (.int 2))) aNil))) aNil))))
    (oSeq (oSet 8 (eLst aNil))
    (oSeq (oForE (iOf (eCall f_law_row (aCons (eCall f_law_cell (aCons (eVar 0) (aCons (eOp gAdd (eVar 1) (eC (.int 3))) aNil))) (aCons (eOp gMod (eOp gDiv (eVar 4) (eC (.int 7))) (eOp gAdd (eVar 3) (eC (.int 1)))) (aCons (eC (.int 720720)) aNil))))) (bN 9) (oSeq (oFix [7] (oSet 10 (eOp gIx (eVar 7) (eOp gMod (eVar 9) (eCall gLen (aCons (eVar 7) aNil))))))
    (oFix [7] (oMutS (mMut 8 gAppend (aCons (eCall f_law_pair_up (aCons (eVar 10) (aCons (eOp gIx (eVar 7) (eOp gMod (eOp gDiv (eVar 9) (eC (.int 840))) (eCall gLen (aCons (eVar 7) aNil)))) aNil))) aNil))))))
    (oFix [8] (oRet (eTup (aCons (eVar 6) (aCons (eVar 8) aNil)))))))))))
def f_law_true : List PyData → M Sl := fnO 4 11 o_law_true
def o_law_spoilt : Env → O :=
  (oSeq (oSet 3 (eCall f_law_cell (aCons (eVar 1) (aCons (eOp gAdd (eVar 2) (eC (.int 4))) aNil))))
    (oSeq (oSet 4 (eOp gMod (eVar 3) (eC (.int 3))))
    (oSeq (oSet 5 (eLst aNil))
    (oSeq (oForE (iAr (aCons (eCall gLen (aCons (eVar 0) aNil)) aNil) rng1Of) (bN 6) (oSeq (oSet 7 (eCall gList (aCons (eOp gIx (eVar 0) (eVar 6)) aNil)))
    (oSeq (oSet 8 (ePub (eCall f_law_row (aCons (eOp gAdd (eOp gDiv (eVar 3) (eC (.int 3))) (eOp gMul (eC (.int 31)) (eVar 6))) (aCons (eCall gLen (aCons (eVar 7) aNil)) (aCons (eC (.int 36)) aNil))))))
    (oSeq (oForE (iAr (aCons (ePub (eCall gLen (aCons (eVar 7) aNil))) aNil) rng1Of) (bN 9) (oSeq (oFix [8] (oSet 10 (eOp gMod (eOp gIx (eVar 8) (eVar 9)) (eC (.int 12)))))
    (oIf (tOrF (tAndF (tOf (eOp gEq (eVar 4) (eC (.int 2)))) (tOf (eOp (gCmp .Gt) (eVar 10) (eC (.int 3))))) (tAndF (tOf (eOp gEq (eVar 4) (eC (.int 1)))) (tOf (eOp gEq (eVar 10) (eC (.int 0)))))) (oFix [8] (oSetIx 7 (eOp gDiv (eOp gIx (eVar 8) (eVar 9)) (eC (.int 12))) (eVar 9))) oNx)))
    (oFix [7] (oMutS (mMut 5 gAppend (aCons (eCall gTuple (aCons (eVar 7) aNil)) aNil))))))))
    (oRetV 5)))))
def f_law_spoilt : List PyData → M Sl := fnO 3 11 o_law_spoilt
def o_law_company : Env → O :=
  (oSeq (oAsg (eCall f_law_true (aCons (eVar 0) (aCons (eVar 1) (aCons (eVar 2) (aCons (eVar 3) aNil))))) (bTup 2 (bCons (bN 6) (bCons (bN 7) bNil))))
    (oSeq (oSet 4 (eLc (iOf (eVar 7)) [8] (bN 8) (fun _ => .ok true) (eCall f_law_seen (aCons (eOp gIx (eVar 8) (eC (.int 0))) (aCons (eOp gIx (eVar 8) (eC (.int 1))) aNil)))))
    (oSeq (oFix [4] (oSet 4 (eCall f_law_spoilt (aCons (eVar 4) (aCons (eVar 0) (aCons (eVar 1) aNil))))))
    (oSeq (oSet 5 (eCall f_law_cell (aCons (eVar 0) (aCons (eVar 1) aNil))))
    (oFix [4] (oRet (eTup (aCons (eVar 6) (aCons (eLc (iAr (aCons (eCall gLen (aCons (eVar 4) aNil)) aNil) rng1Of) [9] (bN 9) (fun _ => .ok true) (eTup (aCons (eCall f_law_name (aCons (eOp gDiv (eVar 5) (eC (.int 7))) (aCons (eVar 9) aNil))) (aCons (eOp gIx (eVar 4) (eVar 9)) aNil)))) aNil)))))))))
def f_law_company : List PyData → M Sl := fnO 4 10 o_law_company
def o_Sums_lasts : Env → O :=
  (oRet (eLc (iOf (eUn (gFld "Sums" "kept") (eVar 0))) [1] (bN 1) (fun _ => .ok true) (eOp gIx (eOp gIx (eVar 1) (eC (.int 0))) (eUn gNeg (eC (.int 1))))))
def f_Sums_lasts : List PyData → M Sl := fnO 1 2 o_Sums_lasts
def o_Joints_check_open : Env → O :=
  (oIf (tOf (eOp gNotN (eUn (gFld "Joints" "paper") (eVar 0)) (eC .none))) (oExc "Barred") oNx)
def f_Joints_check_open : List PyData → M Sl := fnO 1 1 o_Joints_check_open
def o_Joints_loose : Env → O :=
  (oSeq (oExp (eMeth "Joints" "check_open" f_Joints_check_open (eVar 0) aNil))
    (oSeq (oSet 1 (eMeth "Sums" "lasts" f_Sums_lasts (eUn (gFld "Joints" "sums") (eVar 0)) aNil))
    (oFix [1] (oRet (eLc (iOf (eUn (gFld "Joints" "pairs") (eVar 0))) [2] (bN 2) (tOf (eOp gNotIn (eVar 2) (eVar 1))) (eVar 2))))))
def f_Joints_loose : List PyData → M Sl := fnO 1 3 o_Joints_loose
def o_Joints_many_ways : Env → O :=
  (oSeq (oIf (tOf (eOp gNotN (eUn (gFld "Joints" "paper") (eVar 0)) (eC .none))) (oRet (eC (.int 0))) oNx)
    (oSeq (oSet 1 (eC (.int 1)))
    (oSeq (oForE (iOf (eMeth "Joints" "loose" f_Joints_loose (eVar 0) aNil)) (bN 2) (oSet 1 (eOp gMul (eC (.int 2)) (eVar 1))))
    (oRet (eVar 1)))))
def f_Joints_many_ways : List PyData → M Sl := fnO 1 3 o_Joints_many_ways
def o_law_sayings : Env → O :=
  (oSeq (oSet 2 (eLst aNil))
    (oSeq (oSet 3 (eCall f_law_row (aCons (eVar 1) (aCons (eCall gLen (aCons (eVar 0) aNil)) (aCons (eC (.int 5040)) aNil)))))
    (oSeq (oForE (iAr (aCons (eCall gLen (aCons (eVar 0) aNil)) aNil) rng1Of) (bN 4) (oSeq (oAsg (eOp gIx (eVar 0) (eVar 4)) (bTup 2 (bCons (bN 6) (bCons (bN 7) bNil))))
    (oSeq (oSet 5 (eLc (iAr (aCons (eCall gLen (aCons (eVar 7) aNil)) aNil) rng1Of) [11] (bN 11) (tOf (eOp gEq (eOp gIx (eVar 7) (eVar 11)) (eC (.int 2)))) (eVar 11)))
    (oFix [3, 5] (oIf (tAndF (tOf (eOp gEq (eOp gMod (eOp gIx (eVar 3) (eVar 4)) (eC (.int 4))) (eC (.int 3)))) (tOf (eOp (gCmp .Gt) (eCall gLen (aCons (eVar 5) aNil)) (eC (.int 1))))) (oSeq (oFix [3, 5] (oSet 8 (eOp gMod (eOp gDiv (eOp gIx (eVar 3) (eVar 4)) (eC (.int 4))) (eCall gLen (aCons (eVar 5) aNil)))))
    (oSeq (oFix [3, 5] (oSet 9 (eOp gMod (eOp gAdd (eOp gAdd (eVar 8) (eC (.int 1))) (eOp gMod (eOp gDiv (eOp gIx (eVar 3) (eVar 4)) (eC (.int 48))) (eOp gSub (eCall gLen (aCons (eVar 5) aNil)) (eC (.int 1))))) (eCall gLen (aCons (eVar 5) aNil)))))
    (oSeq (oFix [3] (oSet 10 (eOp gIx (eLst (aCons (eC (.str "together")) (aCons (eC (.str "apart")) aNil))) (eOp gMod (eOp gDiv (eOp gIx (eVar 3) (eVar 4)) (eC (.int 336))) (eC (.int 2))))))
    (oFix [5] (oMutS (mMut 2 gAppend (aCons (eTup (aCons (eVar 6) (aCons (eCall gMin2 (aCons (eOp gIx (eVar 5) (eVar 8)) (aCons (eOp gIx (eVar 5) (eVar 9)) aNil))) (aCons (eCall gMax2 (aCons (eOp gIx (eVar 5) (eVar 8)) (aCons (eOp gIx (eVar 5) (eVar 9)) aNil))) (aCons (eVar 10) aNil))))) aNil))))))) oNx)))))
    (oRetV 2))))
def f_law_sayings : List PyData → M Sl := fnO 2 12 o_law_sayings
def o_Joints_bar_of : Env → O :=
  (oRet (eUn (gFld "Joints" "paper") (eVar 0)))
def f_Joints_bar_of : List PyData → M Sl := fnO 1 1 o_Joints_bar_of
def o_law_marks_v3 : Env → O :=
  (oSeq (oForE (iAr (aCons (eVar 2) aNil) rng1Of) (bN 4) (oSeq (oIf (tOrF (tNotF (tOf (eCall f_law_whole (aCons (eOp gIx (eVar 0) (eOp gAdd (eVar 1) (eVar 4))) aNil)))) (tOrF (tOf (eOp (gCmp .Lt) (eOp gIx (eVar 0) (eOp gAdd (eVar 1) (eVar 4))) (eC (.int 0)))) (tOf (eOp (gCmp .GtE) (eOp gIx (eVar 0) (eOp gAdd (eVar 1) (eVar 4))) (eVar 3))))) (oRet (eC (.bool false))) oNx)
    (oIf (tAndF (tOf (eOp (gCmp .Gt) (eVar 4) (eC (.int 0)))) (tOf (eOp (gCmp .GtE) (eOp gIx (eVar 0) (eOp gSub (eOp gAdd (eVar 1) (eVar 4)) (eC (.int 1)))) (eOp gIx (eVar 0) (eOp gAdd (eVar 1) (eVar 4)))))) (oRet (eC (.bool false))) oNx)))
    (oRet (eC (.bool true))))
def f_law_marks_v3 : List PyData → M Sl := fnO 4 5 o_law_marks_v3
def o_law_shows : Env → O :=
  (oSeq (oIf (tAndF (tOf (eOp gEq (eOp gIx (eVar 0) (eVar 1)) (eC (.int 2)))) (tOf (eOp gEq (eOp gIx (eVar 0) (eVar 2)) (eC (.int 2))))) (oRet (eC (.bool false))) oNx)
    (oRet (eAndV (eOp gIn (eOp gIx (eVar 0) (eVar 1)) (eTup (aCons (eOp gIx (eVar 3) (eC (.int 0))) (aCons (eC (.int 2)) aNil)))) (eOp gIn (eOp gIx (eVar 0) (eVar 2)) (eTup (aCons (eOp gIx (eVar 3) (eC (.int 1))) (aCons (eC (.int 2)) aNil)))))))
def f_law_shows : List PyData → M Sl := fnO 4 4 o_law_shows
def o_law_live_here : Env → O :=
  (oRet (eLk 0 (eCall (gAllAny fun bs => bs.any id) (aCons (eLc (iKeysL 0) [3] (bN 3) (fun _ => .ok true) (eAndV (eOp gEq (eOp gIx (eOp gGetL (eVar 0) (eVar 3)) (eVar 1)) (eC (.int 2))) (eOp gEq (eOp gIx (eOp gGetL (eVar 0) (eVar 3)) (eVar 2)) (eC (.int 2))))) aNil))))
def f_law_live_here : List PyData → M Sl := fnO 3 4 o_law_live_here
def o_law_joined : Env → O :=
  (oSeq (oIf (tNotF (tOf (eCall f_law_live_here (aCons (eVar 0) (aCons (eOp gIx (eVar 1) (eC (.int 1))) (aCons (eOp gIx (eVar 1) (eC (.int 2))) aNil)))))) (oRet (eC (.bool false))) oNx)
    (oSeq (oIf (tOf (eOp gEq (eOp gIx (eVar 1) (eC (.int 0))) (eC (.str "joined")))) (oRet (eAndV (eOp gInK (eOp gIx (eVar 1) (eC (.int 3))) (eVar 0)) (eCall f_law_shows (aCons (eOp gGetK (eVar 0) (eOp gIx (eVar 1) (eC (.int 3)))) (aCons (eOp gIx (eVar 1) (eC (.int 1))) (aCons (eOp gIx (eVar 1) (eC (.int 2))) (aCons (eTup (aCons (eC (.int 1)) (aCons (eC (.int 1)) aNil))) aNil))))))) oNx)
    (oSeq (oIf (tOrF (tOf (eOp gNotInK (eOp gIx (eVar 1) (eC (.int 3))) (eVar 0))) (tOf (eOp gNotInK (eOp gIx (eVar 1) (eC (.int 4))) (eVar 0)))) (oRet (eC (.bool false))) oNx)
    (oSeq (oIf (tNotF (tOf (eCall f_law_shows (aCons (eOp gGetK (eVar 0) (eOp gIx (eVar 1) (eC (.int 3)))) (aCons (eOp gIx (eVar 1) (eC (.int 1))) (aCons (eOp gIx (eVar 1) (eC (.int 2))) (aCons (eTup (aCons (eC (.int 0)) (aCons (eC (.int 1)) aNil))) aNil))))))) (oRet (eC (.bool false))) oNx)
    (oRet (eCall f_law_shows (aCons (eOp gGetK (eVar 0) (eOp gIx (eVar 1) (eC (.int 4)))) (aCons (eOp gIx (eVar 1) (eC (.int 1))) (aCons (eOp gIx (eVar 1) (eC (.int 2))) (aCons (eTup (aCons (eC (.int 1)) (aCons (eC (.int 0)) aNil))) aNil))))))))))
def f_law_joined : List PyData → M Sl := fnO 2 2 o_law_joined
def o_law_fact : Env → O :=
  (oSeq (oIf (tOrF (tNotF (tOf (eIsi "tuple" (eVar 2)))) (tOf (eOp (gCmp .Lt) (eCall gLen (aCons (eVar 2) aNil)) (eC (.int 4))))) (oRet (eC .none)) oNx)
    (oSeq (oIf (tAndF (tOf (eOp gEq (eOp gIx (eVar 2) (eC (.int 0))) (eC (.str "three")))) (tAndF (tOf (eOp gEq (eCall gLen (aCons (eVar 2) aNil)) (eC (.int 5)))) (tAndF (tOf (eOp gInK (eOp gIx (eVar 2) (eC (.int 1))) (eVar 0))) (tOf (eCall f_law_marks_v3 (aCons (eVar 2) (aCons (eC (.int 2)) (aCons (eC (.int 3)) (aCons (eVar 3) aNil))))))))) (oSeq (oIf (tOf (eCall (gAllAny fun bs => bs.any id) (aCons (eLc (iAr (aCons (eC (.int 2)) (aCons (eC (.int 5)) aNil)) rng2Of) [4] (bN 4) (fun _ => .ok true) (eOp gNe (eOp gIx (eOp gGetK (eVar 0) (eOp gIx (eVar 2) (eC (.int 1)))) (eOp gIx (eVar 2) (eVar 4))) (eC (.int 2)))) aNil))) (oRet (eC .none)) oNx)
    (oRet (eTup (aCons (eLst (aCons (eTup (aCons (eOp gIx (eVar 2) (eC (.int 2))) (aCons (eOp gIx (eVar 2) (eC (.int 3))) aNil))) (aCons (eTup (aCons (eOp gIx (eVar 2) (eC (.int 2))) (aCons (eOp gIx (eVar 2) (eC (.int 4))) aNil))) (aCons (eTup (aCons (eOp gIx (eVar 2) (eC (.int 3))) (aCons (eOp gIx (eVar 2) (eC (.int 4))) aNil))) aNil)))) (aCons (eC (.int 0)) aNil))))) oNx)
    (oSeq (oIf (tAndF (tOf (eOp gEq (eOp gIx (eVar 2) (eC (.int 0))) (eC (.str "said")))) (tOf (eOp gIn (eSl (eVar 2) (sSome (eC (.int 1))) sNone) (eVar 1)))) (oRet (eTup (aCons (eLst (aCons (eTup (aCons (eOp gIx (eVar 2) (eC (.int 2))) (aCons (eOp gIx (eVar 2) (eC (.int 3))) aNil))) aNil)) (aCons (eIf (tOf (eOp gEq (eOp gIx (eVar 2) (eC (.int 4))) (eC (.str "apart")))) (eC (.int 1)) (eC (.int 0))) aNil)))) oNx)
    (oSeq (oIf (tAndF (tOf (eOp gEq (eOp gIx (eVar 2) (eC (.int 0))) (eC (.str "joined")))) (tAndF (tOf (eOp gEq (eCall gLen (aCons (eVar 2) aNil)) (eC (.int 4)))) (tOf (eCall f_law_marks_v3 (aCons (eVar 2) (aCons (eC (.int 1)) (aCons (eC (.int 2)) (aCons (eVar 3) aNil)))))))) (oRet (eIf (tOf (eCall f_law_joined (aCons (eVar 0) (aCons (eVar 2) aNil)))) (eTup (aCons (eLst (aCons (eTup (aCons (eOp gIx (eVar 2) (eC (.int 1))) (aCons (eOp gIx (eVar 2) (eC (.int 2))) aNil))) aNil)) (aCons (eC (.int 0)) aNil))) (eC .none))) oNx)
    (oSeq (oIf (tAndF (tOf (eOp gEq (eOp gIx (eVar 2) (eC (.int 0))) (eC (.str "parted")))) (tAndF (tOf (eOp gEq (eCall gLen (aCons (eVar 2) aNil)) (eC (.int 5)))) (tOf (eCall f_law_marks_v3 (aCons (eVar 2) (aCons (eC (.int 1)) (aCons (eC (.int 2)) (aCons (eVar 3) aNil)))))))) (oRet (eIf (tOf (eCall f_law_joined (aCons (eVar 0) (aCons (eVar 2) aNil)))) (eTup (aCons (eLst (aCons (eTup (aCons (eOp gIx (eVar 2) (eC (.int 1))) (aCons (eOp gIx (eVar 2) (eC (.int 2))) aNil))) aNil)) (aCons (eC (.int 1)) aNil))) (eC .none))) oNx)
    (oRet (eC .none)))))))
def f_law_fact : List PyData → M Sl := fnO 4 5 o_law_fact
def o_law_odd : Env → O :=
  (oSeq (oIf (tOrF (tOf (eOp gNe (eCall gLen (aCons (eVar 2) aNil)) (eC (.int 2)))) (tNotF (tOf (eIsi "tuple" (eOp gIx (eVar 2) (eC (.int 1))))))) (oRet (eC (.bool false))) oNx)
    (oSeq (oSet 4 (eLst aNil))
    (oSeq (oSet 5 (eC (.int 0)))
    (oSeq (oForE (iOf (eOp gIx (eVar 2) (eC (.int 1)))) (bN 6) (oSeq (oSet 7 (eCall f_law_fact (aCons (eVar 0) (aCons (eVar 1) (aCons (eVar 6) (aCons (eVar 3) aNil))))))
    (oSeq (oIf (tOf (eOp gIsN (eVar 7) (eC .none))) (oRet (eC (.bool false))) oNx)
    (oSeq (oAug 5 (eOp gIx (eVar 7) (eC (.int 1))))
    (oForE (iOf (eOp gIx (eVar 7) (eC (.int 0)))) (bN 8) (oIf (tPub (tOf (eOp gIn (eVar 8) (eVar 4)))) (oMutS (mMut 4 gRemove (aCons (eVar 8) aNil))) (oMutS (mMut 4 gAppend (aCons (eVar 8) aNil)))))))))
    (oFix [4] (oRet (eAndV (eOp gEq (eVar 4) (eLst aNil)) (eOp gEq (eOp gMod (eVar 5) (eC (.int 2))) (eC (.int 1))))))))))
def f_law_odd : List PyData → M Sl := fnO 4 9 o_law_odd
def o_law_clash : Env → O :=
  (oSeq (oIf (tOrF (tOf (eOp gNe (eCall gLen (aCons (eVar 1) aNil)) (eC (.int 6)))) (tNotF (tOf (eCall f_law_marks_v3 (aCons (eVar 1) (aCons (eC (.int 1)) (aCons (eC (.int 2)) (aCons (eVar 2) aNil)))))))) (oRet (eC (.bool false))) oNx)
    (oSeq (oForE (iAr (aCons (eC (.int 3)) aNil) rng1Of) (bN 3) (oSeq (oIf (tOf (eOp gNotInK (eOp gIx (eVar 1) (eOp gAdd (eC (.int 3)) (eVar 3))) (eVar 0))) (oRet (eC (.bool false))) oNx)
    (oIf (tNotF (tOf (eCall f_law_shows (aCons (eOp gGetK (eVar 0) (eOp gIx (eVar 1) (eOp gAdd (eC (.int 3)) (eVar 3)))) (aCons (eOp gIx (eVar 1) (eC (.int 1))) (aCons (eOp gIx (eVar 1) (eC (.int 2))) (aCons (eOp gIx (eLst (aCons (eTup (aCons (eC (.int 0)) (aCons (eC (.int 1)) aNil))) (aCons (eTup (aCons (eC (.int 1)) (aCons (eC (.int 0)) aNil))) (aCons (eTup (aCons (eC (.int 1)) (aCons (eC (.int 1)) aNil))) aNil)))) (eVar 3)) aNil))))))) (oRet (eC (.bool false))) oNx)))
    (oRet (eC (.bool true)))))
def f_law_clash : List PyData → M Sl := fnO 3 4 o_law_clash
def o_law_k15 : Env → O :=
  (oSeq (oAsg (eCall f_law_company (aCons (eVar 0) (aCons (eC (.int 0)) (aCons (eC (.int 6)) (aCons (eC (.int 6)) aNil))))) (bTup 2 (bCons (bN 6) (bCons (bN 7) bNil))))
    (oSeq (oSet 1 (eLst aNil))
    (oSeq (oSet 2 (eCall f_law_cell (aCons (eVar 0) (aCons (eC (.int 5)) aNil))))
    (oSeq (oIf (tOf (eOp gEq (eOp gMod (eVar 2) (eC (.int 2))) (eC (.int 1)))) (oSet 1 (eCall f_law_sayings (aCons (eVar 7) (aCons (eOp gDiv (eVar 2) (eC (.int 4))) aNil)))) oNx)
    (oSeq (oFix [1] (oIf (tAndF (tOf (eOp gEq (eOp gMod (eVar 2) (eC (.int 4))) (eC (.int 3)))) (tOf (eOp (gCmp .Gt) (eCall gLen (aCons (eVar 1) aNil)) (eC (.int 0))))) (oSeq (oFix [1] (oAsg (eOp gIx (eVar 1) (eC (.int 0))) (bTup 4 (bCons (bN 8) (bCons (bN 10) (bCons (bN 11) (bCons (bN 12) bNil)))))))
    (oFix [1] (oSet 1 (eOp gAdd (eLst (aCons (eTup (aCons (eVar 8) (aCons (eVar 10) (aCons (eVar 11) (aCons (eIf (tOf (eOp gEq (eVar 12) (eC (.str "together")))) (eC (.str "apart")) (eC (.str "together"))) aNil))))) aNil)) (eSl (eVar 1) (sSome (eC (.int 1))) sNone))))) oNx))
    (oSeq (oFix [1] (oSet 3 (eCall (gNew "Joints" f2_Joints_init__) (aCons (eVar 6) (aCons (eCall gList (aCons (eVar 7) aNil)) (aCons (eCall gList (aCons (eVar 1) aNil)) aNil))))))
    (oSeq (oSet 4 (eMeth "Joints" "bar_of" f_Joints_bar_of (eVar 3) aNil))
    (oSeq (oIf (tOf (eOp gIsN (eVar 4) (eC .none))) (oRet (eOp (gCmp .Gt) (eMeth "Joints" "many_ways" f_Joints_many_ways (eVar 3) aNil) (eC (.int 0)))) oNx)
    (oSeq (oSet 5 eNewK)
    (oSeq (oForE (iOf (eVar 7)) (bTup 2 (bCons (bN 8) (bCons (bN 9) bNil))) (oPutK 5 (eCall f_law_against (aCons (eVar 9) (aCons (eVar 6) aNil))) (eVar 8)))
    (oSeq (oIf (tOrF (tOf (eOp gNe (eMeth "Joints" "many_ways" f_Joints_many_ways (eVar 3) aNil) (eC (.int 0)))) (tOrF (tNotF (tOf (eIsi "tuple" (eVar 4)))) (tOf (eOp (gCmp .Lt) (eCall gLen (aCons (eVar 4) aNil)) (eC (.int 2)))))) (oRet (eC (.bool false))) oNx)
    (oSeq (oIf (tOf (eOp gEq (eOp gIx (eVar 4) (eC (.int 0))) (eC (.str "clash")))) (oFix [5] (oRet (eCall f_law_clash (aCons (eVar 5) (aCons (eVar 4) (aCons (eCall gLen (aCons (eVar 6) aNil)) aNil)))))) oNx)
    (oFix [1, 5] (oRet (eAndV (eOp gEq (eOp gIx (eVar 4) (eC (.int 0))) (eC (.str "odd"))) (eCall f_law_odd (aCons (eVar 5) (aCons (eVar 1) (aCons (eVar 4) (aCons (eCall gLen (aCons (eVar 6) aNil)) aNil))))))))))))))))))))
def f_law_k15 : List PyData → M Sl := fnO 1 13 o_law_k15
end Dl
/-! Evaluation of meanings: one fact per operation. -/
namespace Dl
open PySem PySem.Spec PyProof.Rows L2
theorem oSeq_nx {f g : Env → O} {ρ ρ' : Env} (h : f ρ = .nx ρ') : oSeq f g ρ = g ρ' := by simp only [oSeq, h]
theorem oSeq_rt {f g : Env → O} {ρ : Env} {s : Sl} (h : f ρ = .rt s) : oSeq f g ρ = .rt s := by simp only [oSeq, h]
/-- not by mere unfolding: the kernel would look into the wrong side -/
theorem bindN_ok {α β : Type} {a : α} {f : α → M β} : (M.ok a).bind f = f a := (Eq.refl (f a)).trans (Eq.refl (f a))
theorem oOfN_ok {α : Type} {a : α} {k : α → O} : oOf (.ok a) k = k a := (Eq.refl (k a)).trans (Eq.refl (k a))
theorem oFor_nil {bd : PyData → Env → M Env} {body : Env → O} {ρ : Env} : oFor bd body [] ρ = .nx ρ := (Eq.refl (O.nx ρ)).trans (Eq.refl (O.nx ρ))
theorem oFor_cons {bd : PyData → Env → M Env} {body : Env → O} {d : PyData} {ds : List PyData} {ρ : Env} : oFor bd body (d :: ds) ρ = oOf (bd d ρ) fun ρ1 => match body ρ1 with
    | .nx ρ2 => oFor bd body ds ρ2
    | .ct ρ2 => oFor bd body ds ρ2
    | .bk ρ2 => .nx ρ2
    | .rt sl => .rt sl
    | .exc x => .exc x
    | .stuck => .stuck := by first | (rw [oFor]; done) | (rw [oFor]; rfl)
theorem seqN {f g : Env → O} {ρ ρ' : Env} {r : O} (h : f ρ = .nx ρ') (k : g ρ' = r) : oSeq f g ρ = r := by rw [oSeq_nx h]; exact k
theorem seqP {f g : Env → O} {ρ : Env} {r : O} (P : Env → Prop) (h : ∃ ρ', f ρ = .nx ρ' ∧ P ρ') (k : ∀ ρ', P ρ' → g ρ' = r) : oSeq f g ρ = r := by
  obtain ⟨ρ', h1, h2⟩ := h
  rw [oSeq_nx h1]
  exact k ρ' h2
theorem fixN {l : List Nat} {f : Env → O} {ρ : Env} {r : O} (k : f (fixs ρ l) = r) : oFix l f ρ = r := k
theorem fnO_rt {n m : Nat} {o : Env → O} {ds : List PyData} {sl : Sl} (h : ds.length = n) (k : o (ds.map (fun d => some (Sl.dat d)) ++ List.replicate (m - n) none) = .rt sl) : fnO n m o ds = .ok sl := by
  unfold fnO
  rw [if_pos h, k]
theorem ifN_t {t : Env → M Bool} {f g : Env → O} {ρ : Env} {r : O} (h : t ρ = .ok true) (k : f ρ = r) : oIf t f g ρ = r := by
  unfold oIf
  rw [h, oOf_ok, if_pos rfl]
  exact k
theorem ifN_f {t : Env → M Bool} {f g : Env → O} {ρ : Env} {r : O} (h : t ρ = .ok false) (k : g ρ = r) : oIf t f g ρ = r := by
  unfold oIf
  rw [h, oOf_ok, if_neg (by decide)]
  exact k
theorem forN {fi : Env → M (List PyData)} {bd : PyData → Env → M Env} {body : Env → O} {ρ : Env} {ds : List PyData} {r : O} (h : fi ρ = .ok ds) (k : oFor bd body ds ρ = r) : oForE fi bd body ρ = r := by
  unfold oForE
  rw [h, oOf_ok]
  exact k
theorem big_lt {n : Nat} (h : n ≤ 16777216) : big n = true := decide_eq_true h
theorem smallI_lt {i : Int} (h : -18446744073709551616 < i) (h2 : i < 18446744073709551616) : smallI i = true := decide_eq_true (by omega)
theorem gAdd_ii {i j : Int} : gAdd (.int i) (.int j) = retI (i + j) := rfl
theorem gAdd_tt {a b : List PyData} (h : a.length + b.length ≤ 16777216) : gAdd (.tuple a) (.tuple b) = .ok (.dat (.tuple (a ++ b))) := if_pos (big_lt h)
theorem gAdd_ll {a b : List PyData} (h : a.length + b.length ≤ 16777216) : gAdd (.list a) (.list b) = .ok (.own (.list (a ++ b))) := if_pos (big_lt h)
theorem gSub_ii {i j : Int} : gSub (.int i) (.int j) = retI (i - j) := rfl
theorem gMod_ii {i j : Int} (h : 0 < j) : gMod (.int i) (.int j) = retI (i % j) := if_pos h
theorem gDiv_ii {i j : Int} (h : 0 < j) (h2 : j < 18446744073709551616) : gDiv (.int i) (.int j) = retI (i / j) := if_pos ⟨h, h2⟩
theorem gMul_l {i j : Int} (h : -18446744073709551616 < i) (h2 : i < 18446744073709551616) : gMul (.int i) (.int j) = retI (i * j) := if_pos (Or.inl (smallI_lt h h2))
theorem gMul_r {i j : Int} (h : -18446744073709551616 < j) (h2 : j < 18446744073709551616) : gMul (.int i) (.int j) = retI (i * j) := if_pos (Or.inr (smallI_lt h h2))
theorem gPow_ii {i j : Int} (h : 0 ≤ j) (h2 : j ≤ 1000) (h3 : -18446744073709551616 < i) (h4 : i < 18446744073709551616) : gPow (.int i) (.int j) = retI (i ^ j.toNat) := if_pos ⟨h, h2, smallI_lt h3 h4⟩
theorem gNeg_i {i : Int} : gNeg (.int i) = retI (-i) := rfl
theorem gEq_ii {i j : Int} : gEq (.int i) (.int j) = retB (decide (i = j)) := rfl
theorem gNe_ii {i j : Int} : gNe (.int i) (.int j) = retB (!decide (i = j)) := rfl
theorem gEq_bb {i j : Bool} : gEq (.bool i) (.bool j) = retB (decide (i = j)) := rfl
theorem gNe_bb {i j : Bool} : gNe (.bool i) (.bool j) = retB (!decide (i = j)) := rfl
theorem gCmp_ii {op : CmpOp} {i j : Int} : gCmp op (.int i) (.int j) = retB (cmpI op i j) := rfl
theorem gIsN_n {d : PyData} : gIsN d .none = retB (isNoneD d) := rfl
theorem gNotN_n {d : PyData} : gNotN d .none = retB (!isNoneD d) := rfl
theorem gAppend_1 {l : List PyData} {d : PyData} (h : l.length + 1 ≤ 16777216) : gAppend l [d] = some (l ++ [d], .none) := if_pos (big_lt h)
theorem gLen_l {l : List PyData} : gLen [.list l] = retI l.length := rfl
theorem gLen_t {l : List PyData} : gLen [.tuple l] = retI l.length := rfl
theorem gLen_s {l : List PyData} : gLen [.dict [(.none, .list l)]] = retI l.length := rfl
theorem gTuple_l {l : List PyData} : gTuple [.list l] = .ok (.dat (.tuple l)) := rfl
theorem gTuple_t {l : List PyData} : gTuple [.tuple l] = .ok (.dat (.tuple l)) := rfl
theorem gList_l {l : List PyData} : gList [.list l] = .ok (.own (.list l)) := rfl
theorem gList_t {l : List PyData} : gList [.tuple l] = .ok (.own (.list l)) := rfl
theorem gMin2_ii {i j : Int} : gMin2 [.int i, .int j] = retI (if j < i then j else i) := rfl
theorem gMax2_ii {i j : Int} : gMax2 [.int i, .int j] = retI (if j > i then j else i) := rfl
theorem rngOk_lt {i : Int} (h : -1000000 ≤ i) (h2 : i ≤ 1000000) : rngOk i = true := decide_eq_true (by omega)
theorem rng1_i {j : Int} (h : -1000000 ≤ j) (h2 : j ≤ 1000000) : rng1Of [.int j] = .ok (rng 0 j.toNat) := if_pos (rngOk_lt h h2)
theorem rng2_i {i j : Int} (h : -1000000 ≤ j) (h2 : j ≤ 1000000) (h3 : -1000000 ≤ i) (h4 : i ≤ 1000000) : rng2Of [.int i, .int j] = .ok (rng i (j - i).toNat) := if_pos ⟨rngOk_lt h3 h4, rngOk_lt h h2⟩
theorem cut_to {l : List PyData} {i : Int} (h0 : 0 ≤ i) (h : i ≤ (l.length : Int)) : cutD l none (some i) = l.take i.toNat := by
  have : ¬ (i < 0) := by omega
  simp only [cutD, HT.sIx, this, if_false, List.drop_zero, Nat.sub_zero]
  rw [Nat.min_eq_left (by omega)]
theorem cut_from {l : List PyData} {i : Int} (h0 : 0 ≤ i) (h : i ≤ (l.length : Int)) : cutD l (some i) none = l.drop i.toNat := by
  have : ¬ (i < 0) := by omega
  simp only [cutD, HT.sIx, this, if_false]
  rw [Nat.min_eq_left (by omega)]
  exact List.take_of_length_le (by rw [List.length_drop]; omega)
theorem gSl_t {l : List PyData} {lo hi : Option Int} : gSl (.tuple l) lo hi = .ok (.dat (.tuple (cutD l lo hi))) := rfl
theorem gSl_l {l : List PyData} {lo hi : Option Int} : gSl (.list l) lo hi = .ok (.own (.list (cutD l lo hi))) := rfl
theorem atI_pos {l : List PyData} {k : Int} (h0 : 0 ≤ k) : atI l k = l[k.toNat]? := by
  have e : k = ((k.toNat : Nat) : Int) := by omega
  cases h : l[k.toNat]? with
  | some d => rw [e]; exact atI_nat h
  | none =>
    rw [List.getElem?_eq_none_iff] at h
    simp only [atI, ixN]
    have h1 : ¬ (k < (l.length : Int)) := by omega
    simp [h1, h0]
theorem gIx_l {l : List PyData} {k : Int} {d : PyData} (h : atI l k = some d) : gIx (.list l) (.int k) = .ok (.dat d) := by simp only [gIx, h]
theorem gIx_t {l : List PyData} {k : Int} {d : PyData} (h : atI l k = some d) : gIx (.tuple l) (.int k) = .ok (.dat d) := by simp only [gIx, h]
theorem gIx_s {l : List PyData} {k : Int} {d : PyData} (h : atI l k = some d) : gIx (.dict [(.none, .list l)]) (.int k) = .ok (.dat d) := by simp only [gIx, h]
theorem zipOf_l {a b : List PyData} : zipOf [.list a, .list b] = .ok (zipD a b) := rfl
theorem zipOf_t {a b : List PyData} : zipOf [.tuple a, .tuple b] = .ok (zipD a b) := rfl
theorem enumOf_l {a : List PyData} : enumOf [.list a] = .ok (enumD a) := rfl
theorem enumOf_t {a : List PyData} : enumOf [.tuple a] = .ok (enumD a) := rfl
theorem ncast0 : ((0 : Nat) : Int) = 0 := rfl
theorem ncast1 : ((1 : Nat) : Int) = 1 := rfl
theorem ncast2 : ((2 : Nat) : Int) = 2 := rfl
theorem ncast3 : ((3 : Nat) : Int) = 3 := rfl
theorem ncast4 : ((4 : Nat) : Int) = 4 := rfl
theorem ncast5 : ((5 : Nat) : Int) = 5 := rfl
theorem kit_int_int : kitB "int" "int" = some true := by decide +kernel
theorem isi_int_int {i : Int} : gIsi "int" (.int i) = retB true := by simp only [gIsi, tyName, kit_int_int]
theorem kit_int_bool : kitB "int" "bool" = some false := by decide +kernel
theorem isi_int_bool {i : Int} : gIsi "bool" (.int i) = retB false := by simp only [gIsi, tyName, kit_int_bool]
theorem kit_int_tuple : kitB "int" "tuple" = some false := by decide +kernel
theorem isi_int_tuple {i : Int} : gIsi "tuple" (.int i) = retB false := by simp only [gIsi, tyName, kit_int_tuple]
theorem kit_int_list : kitB "int" "list" = some false := by decide +kernel
theorem isi_int_list {i : Int} : gIsi "list" (.int i) = retB false := by simp only [gIsi, tyName, kit_int_list]
theorem kit_int_str : kitB "int" "str" = some false := by decide +kernel
theorem isi_int_str {i : Int} : gIsi "str" (.int i) = retB false := by simp only [gIsi, tyName, kit_int_str]
theorem kit_bool_int : kitB "bool" "int" = some true := by decide +kernel
theorem isi_bool_int {i : Bool} : gIsi "int" (.bool i) = retB true := by simp only [gIsi, tyName, kit_bool_int]
theorem kit_bool_bool : kitB "bool" "bool" = some true := by decide +kernel
theorem isi_bool_bool {i : Bool} : gIsi "bool" (.bool i) = retB true := by simp only [gIsi, tyName, kit_bool_bool]
theorem kit_bool_tuple : kitB "bool" "tuple" = some false := by decide +kernel
theorem isi_bool_tuple {i : Bool} : gIsi "tuple" (.bool i) = retB false := by simp only [gIsi, tyName, kit_bool_tuple]
theorem kit_bool_list : kitB "bool" "list" = some false := by decide +kernel
theorem isi_bool_list {i : Bool} : gIsi "list" (.bool i) = retB false := by simp only [gIsi, tyName, kit_bool_list]
theorem kit_bool_str : kitB "bool" "str" = some false := by decide +kernel
theorem isi_bool_str {i : Bool} : gIsi "str" (.bool i) = retB false := by simp only [gIsi, tyName, kit_bool_str]
theorem kit_tuple_int : kitB "tuple" "int" = some false := by decide +kernel
theorem isi_tuple_int {i : List PyData} : gIsi "int" (.tuple i) = retB false := by simp only [gIsi, tyName, kit_tuple_int]
theorem kit_tuple_bool : kitB "tuple" "bool" = some false := by decide +kernel
theorem isi_tuple_bool {i : List PyData} : gIsi "bool" (.tuple i) = retB false := by simp only [gIsi, tyName, kit_tuple_bool]
theorem kit_tuple_tuple : kitB "tuple" "tuple" = some true := by decide +kernel
theorem isi_tuple_tuple {i : List PyData} : gIsi "tuple" (.tuple i) = retB true := by simp only [gIsi, tyName, kit_tuple_tuple]
theorem kit_tuple_list : kitB "tuple" "list" = some false := by decide +kernel
theorem isi_tuple_list {i : List PyData} : gIsi "list" (.tuple i) = retB false := by simp only [gIsi, tyName, kit_tuple_list]
theorem kit_tuple_str : kitB "tuple" "str" = some false := by decide +kernel
theorem isi_tuple_str {i : List PyData} : gIsi "str" (.tuple i) = retB false := by simp only [gIsi, tyName, kit_tuple_str]
theorem kit_list_int : kitB "list" "int" = some false := by decide +kernel
theorem isi_list_int {i : List PyData} : gIsi "int" (.list i) = retB false := by simp only [gIsi, tyName, kit_list_int]
theorem kit_list_bool : kitB "list" "bool" = some false := by decide +kernel
theorem isi_list_bool {i : List PyData} : gIsi "bool" (.list i) = retB false := by simp only [gIsi, tyName, kit_list_bool]
theorem kit_list_tuple : kitB "list" "tuple" = some false := by decide +kernel
theorem isi_list_tuple {i : List PyData} : gIsi "tuple" (.list i) = retB false := by simp only [gIsi, tyName, kit_list_tuple]
theorem kit_list_list : kitB "list" "list" = some true := by decide +kernel
theorem isi_list_list {i : List PyData} : gIsi "list" (.list i) = retB true := by simp only [gIsi, tyName, kit_list_list]
theorem kit_list_str : kitB "list" "str" = some false := by decide +kernel
theorem isi_list_str {i : List PyData} : gIsi "str" (.list i) = retB false := by simp only [gIsi, tyName, kit_list_str]
theorem kit_str_int : kitB "str" "int" = some false := by decide +kernel
theorem isi_str_int {i : Str} : gIsi "int" (.str i) = retB false := by simp only [gIsi, tyName, kit_str_int]
theorem kit_str_bool : kitB "str" "bool" = some false := by decide +kernel
theorem isi_str_bool {i : Str} : gIsi "bool" (.str i) = retB false := by simp only [gIsi, tyName, kit_str_bool]
theorem kit_str_tuple : kitB "str" "tuple" = some false := by decide +kernel
theorem isi_str_tuple {i : Str} : gIsi "tuple" (.str i) = retB false := by simp only [gIsi, tyName, kit_str_tuple]
theorem kit_str_list : kitB "str" "list" = some false := by decide +kernel
theorem isi_str_list {i : Str} : gIsi "list" (.str i) = retB false := by simp only [gIsi, tyName, kit_str_list]
theorem kit_str_str : kitB "str" "str" = some true := by decide +kernel
theorem isi_str_str {i : Str} : gIsi "str" (.str i) = retB true := by simp only [gIsi, tyName, kit_str_str]
theorem kit_none_int : kitB "NoneType" "int" = some false := by decide +kernel
theorem isi_none_int : gIsi "int" .none = retB false := by simp only [gIsi, tyName, kit_none_int]
theorem kit_none_bool : kitB "NoneType" "bool" = some false := by decide +kernel
theorem isi_none_bool : gIsi "bool" .none = retB false := by simp only [gIsi, tyName, kit_none_bool]
theorem kit_none_tuple : kitB "NoneType" "tuple" = some false := by decide +kernel
theorem isi_none_tuple : gIsi "tuple" .none = retB false := by simp only [gIsi, tyName, kit_none_tuple]
theorem kit_none_list : kitB "NoneType" "list" = some false := by decide +kernel
theorem isi_none_list : gIsi "list" .none = retB false := by simp only [gIsi, tyName, kit_none_list]
theorem kit_none_str : kitB "NoneType" "str" = some false := by decide +kernel
theorem isi_none_str : gIsi "str" .none = retB false := by simp only [gIsi, tyName, kit_none_str]
def fixS (x : Option Sl) : Option Sl := match x with
  | some (.own d) => some (.dat d)
  | x => x
theorem fix_get (ρ : Env) (i j : Nat) : (ρ.fix i)[j]? = if j = i then ρ[j]?.map fixS else ρ[j]? := by
  unfold Env.fix
  by_cases e : j = i
  · subst e
    rw [if_pos rfl]
    split
    · rename_i d h
      obtain ⟨hi, _⟩ := List.getElem?_eq_some_iff.mp h
      rw [List.getElem?_set_self hi, h]
      rfl
    · rename_i h
      cases h2 : ρ[j]? with
      | none => rfl
      | some x =>
        cases x with
        | none => rfl
        | some s =>
          cases s with
          | dat d => rfl
          | own d => exact absurd h2 (h d)
  · rw [if_neg e]
    split
    · rw [List.getElem?_set_ne (Ne.symm e)]
    · rfl
theorem fixs_app (ρ : Env) (l : List Nat) (i : Nat) : fixs ρ (l ++ [i]) = (fixs ρ l).fix i := by
  induction l generalizing ρ with
  | nil => rfl
  | cons a l ih => exact ih (ρ.fix a)
theorem fixs_range (ρ : Env) (n j : Nat) : (fixs ρ (List.range n))[j]? = if j < n then ρ[j]?.map fixS else ρ[j]? := by
  induction n with
  | zero => simp [fixs]
  | succ n ih =>
    rw [List.range_succ, fixs_app, fix_get, ih]
    by_cases e : j = n
    · subst e
      simp
    · rw [if_neg e]
      by_cases h : j < n
      · rw [if_pos h, if_pos (by omega)]
      · rw [if_neg h, if_neg (by omega)]
theorem fixAll_map (ρ : Env) : fixAll ρ = ρ.map fixS := by
  refine List.ext_getElem? fun j => ?_
  unfold fixAll
  rw [fixs_range, List.getElem?_map]
  by_cases h : j < ρ.length
  · rw [if_pos h]
  · rw [if_neg h, List.getElem?_eq_none (by omega)]
    rfl
theorem fixS_own (d : PyData) : fixS (some (.own d)) = some (.dat d) := rfl
theorem fixS_dat (d : PyData) : fixS (some (.dat d)) = some (.dat d) := rfl
theorem fixS_none : fixS none = none := rfl
theorem immA_ints (xs : List Int) : immA (xs.map PyData.int) = true := by
  induction xs with
  | nil => rfl
  | cons x xs ih => rw [List.map_cons, immA, ih]; rfl
theorem pubM_ok {sl : Sl} (h : immSl sl = true) : pubM (.ok sl) = .ok sl := if_pos h
theorem immSl_dat (d : PyData) : immSl (.dat d) = imm d := (Eq.refl (imm d)).trans (Eq.refl (imm d))
theorem imm_int (i : Int) : imm (.int i) = true := (Eq.refl true).trans (Eq.refl true)
theorem imm_bool (i : Bool) : imm (.bool i) = true := (Eq.refl true).trans (Eq.refl true)
theorem imm_tup (xs : List PyData) : imm (.tuple xs) = immA xs := (Eq.refl (immA xs)).trans (Eq.refl (immA xs))
end Dl
/-! Plain laws of the meanings: the base. -/
local macro_rules | `(tactic| walk_at "ev") => `(tactic| simp only [Dl.fnO, Dl.oSeq, Dl.gLen_s, Dl.oSet, Dl.oIf, Dl.oRet, Dl.oRetV, Dl.oRetN, Dl.oNx, Dl.oBk, Dl.oCt, Dl.oExp, Dl.oFix, Dl.fixs, Dl.Env.fix, Dl.oForE, Dl.oMutS, Dl.oMutA, Dl.oAsg, Dl.oSetIx, Dl.mMut, Dl.mMutM, Dl.mCall, Dl.mLift, Dl.amCons, Dl.eVar, Dl.eC, Dl.eOp, Dl.eUn, Dl.eIf, Dl.eAndV, Dl.eOrV, Dl.eNotV, Dl.eTup, Dl.eLst, Dl.eCall, Dl.eIsi, Dl.eChain, Dl.eSl, Dl.sNone, Dl.sSome, Dl.isI, Dl.isB, Dl.tOf, Dl.tAndF, Dl.tOrF, Dl.tNotF, Dl.aNil, Dl.aCons, Dl.iOf, Dl.iAr, Dl.itemsD, Dl.rng1_i, Dl.rng2_i,
  Dl.bN, Dl.bTup, Dl.bCons, Dl.bNil, Dl.oOfN_ok, Dl.oOf_exc, Dl.oOf_stuck, Dl.bindN_ok, Dl.bind_exc, Dl.bind_stuck, Dl.Sl.d_dat, Dl.Sl.d_own, Dl.gAdd_ii, Dl.gAdd_tt, Dl.gAdd_ll, Dl.gSub_ii, Dl.gMod_ii, Dl.gDiv_ii, Dl.gMul_l, Dl.gMul_r, Dl.gPow_ii, Dl.gNeg_i, Dl.gEq_ii, Dl.gNe_ii, Dl.gEq_bb, Dl.gNe_bb, Dl.gCmp_ii, Dl.cmpI, Dl.gIsN_n, Dl.gNotN_n, Dl.isNoneD, Dl.gAppend_1, Dl.gLen_l, Dl.gLen_t, Dl.gTuple_l, Dl.gTuple_t, Dl.gList_l, Dl.gList_t, Dl.ePub, Dl.tPub, Dl.gMin2_ii, Dl.fixAll_map, Dl.fixS_own, Dl.fixS_dat, Dl.fixS_none, Dl.pubM_ok, Dl.immSl_dat, Dl.imm_int, Dl.imm_bool, Dl.imm_tup, Dl.immA_ints,  Dl.ncast0, Dl.ncast1, Dl.ncast2, Dl.ncast3, Dl.ncast4, Dl.ncast5, Dl.oFor_nil, Dl.oFor_cons, Dl.gSl_t, Dl.gSl_l,  Dl.eLc, Dl.wipeE, Dl.zipOf_l, Dl.zipOf_t, Dl.enumOf_l, Dl.enumOf_t,  Dl.isi_int_int, Dl.isi_int_bool, Dl.isi_int_tuple, Dl.isi_int_list, Dl.isi_int_str, Dl.isi_bool_int, Dl.isi_bool_bool, Dl.isi_bool_tuple, Dl.isi_bool_list, Dl.isi_bool_str, Dl.isi_tuple_int, Dl.isi_tuple_bool, Dl.isi_tuple_tuple, Dl.isi_tuple_list, Dl.isi_tuple_str, Dl.isi_list_int, Dl.isi_list_bool, Dl.isi_list_tuple, Dl.isi_list_list, Dl.isi_list_str, Dl.isi_str_int, Dl.isi_str_bool, Dl.isi_str_tuple, Dl.isi_str_list, Dl.isi_str_str, Dl.isi_none_int, Dl.isi_none_bool, Dl.isi_none_tuple, Dl.isi_none_list, Dl.isi_none_str, Dl.gMax2_ii,
  List.getElem?_cons_zero, List.getElem?_cons_succ, List.set_cons_zero, List.set_cons_succ, List.map_cons, List.map_nil, List.length_cons, List.length_nil, List.replicate_succ, List.replicate_zero, List.cons_append, List.nil_append, List.append_nil, Nat.reduceSub, Nat.reduceAdd, Nat.reduceEqDiff, if_true, if_false, ite_true, ite_false, Bool.false_eq_true, decide_eq_true_eq, Nat.zero_add, and_self, true_and, and_true, or_true, true_or, or_false, false_or, not_true_eq_false, not_false_eq_true, Bool.not_true, Bool.not_false, Bool.or_true, Bool.true_or, Bool.or_false, Bool.false_or, Bool.and_true, Bool.true_and, Bool.and_false, Bool.false_and, decide_true, decide_false, List.length_map, Dl.big, Int.reduceLT, Int.reduceLE, Int.reduceAdd, Int.reduceSub, Int.reduceMul, Int.reduceNeg, Int.reduceMod, Int.reduceDiv, Int.reduceToNat, Int.reducePow, Int.reduceEq, Nat.reduceLeDiff, ↓reduceIte, List.length_append, Bool.true_eq_false, Dl.retI, Dl.retB, Dl.retS])
local macro_rules | `(tactic| walk_at "st") => `(tactic| refine Dl.seqN (by walk_at "evs"; rfl) ?_)
local macro_rules | `(tactic| walk_at "evs") => `(tactic| simp only [*, Dl.fnO, Dl.oSeq, Dl.gLen_s, Dl.oSet, Dl.oIf, Dl.oRet, Dl.oRetV, Dl.oRetN, Dl.oNx, Dl.oBk, Dl.oCt, Dl.oExp, Dl.oFix, Dl.fixs, Dl.Env.fix, Dl.oForE, Dl.oMutS, Dl.oMutA, Dl.oAsg, Dl.oSetIx, Dl.mMut, Dl.mMutM, Dl.mCall, Dl.mLift, Dl.amCons, Dl.eVar, Dl.eC, Dl.eOp, Dl.eUn, Dl.eIf, Dl.eAndV, Dl.eOrV, Dl.eNotV, Dl.eTup, Dl.eLst, Dl.eCall, Dl.eIsi, Dl.eChain, Dl.eSl, Dl.sNone, Dl.sSome, Dl.isI, Dl.isB, Dl.tOf, Dl.tAndF, Dl.tOrF, Dl.tNotF, Dl.aNil, Dl.aCons, Dl.iOf, Dl.iAr, Dl.itemsD, Dl.rng1_i, Dl.rng2_i,
  Dl.bN, Dl.bTup, Dl.bCons, Dl.bNil, Dl.oOfN_ok, Dl.oOf_exc, Dl.oOf_stuck, Dl.bindN_ok, Dl.bind_exc, Dl.bind_stuck, Dl.Sl.d_dat, Dl.Sl.d_own, Dl.gAdd_ii, Dl.gAdd_tt, Dl.gAdd_ll, Dl.gSub_ii, Dl.gMod_ii, Dl.gDiv_ii, Dl.gMul_l, Dl.gMul_r, Dl.gPow_ii, Dl.gNeg_i, Dl.gEq_ii, Dl.gNe_ii, Dl.gEq_bb, Dl.gNe_bb, Dl.gCmp_ii, Dl.cmpI, Dl.gIsN_n, Dl.gNotN_n, Dl.isNoneD, Dl.gAppend_1, Dl.gLen_l, Dl.gLen_t, Dl.gTuple_l, Dl.gTuple_t, Dl.gList_l, Dl.gList_t, Dl.ePub, Dl.tPub, Dl.gMin2_ii, Dl.fixAll_map, Dl.fixS_own, Dl.fixS_dat, Dl.fixS_none, Dl.pubM_ok, Dl.immSl_dat, Dl.imm_int, Dl.imm_bool, Dl.imm_tup, Dl.immA_ints,  Dl.ncast0, Dl.ncast1, Dl.ncast2, Dl.ncast3, Dl.ncast4, Dl.ncast5, Dl.oFor_nil, Dl.oFor_cons, Dl.gSl_t, Dl.gSl_l,  Dl.eLc, Dl.wipeE, Dl.zipOf_l, Dl.zipOf_t, Dl.enumOf_l, Dl.enumOf_t,  Dl.isi_int_int, Dl.isi_int_bool, Dl.isi_int_tuple, Dl.isi_int_list, Dl.isi_int_str, Dl.isi_bool_int, Dl.isi_bool_bool, Dl.isi_bool_tuple, Dl.isi_bool_list, Dl.isi_bool_str, Dl.isi_tuple_int, Dl.isi_tuple_bool, Dl.isi_tuple_tuple, Dl.isi_tuple_list, Dl.isi_tuple_str, Dl.isi_list_int, Dl.isi_list_bool, Dl.isi_list_tuple, Dl.isi_list_list, Dl.isi_list_str, Dl.isi_str_int, Dl.isi_str_bool, Dl.isi_str_tuple, Dl.isi_str_list, Dl.isi_str_str, Dl.isi_none_int, Dl.isi_none_bool, Dl.isi_none_tuple, Dl.isi_none_list, Dl.isi_none_str, Dl.gMax2_ii,
  List.getElem?_cons_zero, List.getElem?_cons_succ, List.set_cons_zero, List.set_cons_succ, List.map_cons, List.map_nil, List.length_cons, List.length_nil, List.replicate_succ, List.replicate_zero, List.cons_append, List.nil_append, List.append_nil, Nat.reduceSub, Nat.reduceAdd, Nat.reduceEqDiff, if_true, if_false, ite_true, ite_false, Bool.false_eq_true, decide_eq_true_eq, Nat.zero_add, and_self, true_and, and_true, or_true, true_or, or_false, false_or, not_true_eq_false, not_false_eq_true, Bool.not_true, Bool.not_false, Bool.or_true, Bool.true_or, Bool.or_false, Bool.false_or, Bool.and_true, Bool.true_and, Bool.and_false, Bool.false_and, decide_true, decide_false, List.length_map, Dl.big, Int.reduceLT, Int.reduceLE, Int.reduceAdd, Int.reduceSub, Int.reduceMul, Int.reduceNeg, Int.reduceMod, Int.reduceDiv, Int.reduceToNat, Int.reducePow, Int.reduceEq, Nat.reduceLeDiff, ↓reduceIte, List.length_append, Bool.true_eq_false, Dl.retI, Dl.retB, Dl.retS])
namespace Dl
open PySem PySem.Spec PyProof.Rows L2
/-- the script -/
abbrev scr (ns : List Int) : PyData := .dict [(.none, .list (ns.map PyData.int))]
/-- a row -/
abbrev rowD (xs : List Int) : PyData := .tuple (xs.map PyData.int)
def cellAt (ns : List Int) (k : Nat) : Int := ns.getD k 0
/-! ### loops -/
theorem rng_length (lo : Int) (n : Nat) : (rng lo n).length = n := by simp [rng]
theorem rng_succ (k m : Nat) : rng (k : Int) (m + 1) = .int k :: rng ((k + 1 : Nat) : Int) m := by
  unfold rng
  rw [List.range_succ_eq_map, List.map_cons, List.map_map]
  refine congr (congrArg List.cons ?_) ?_
  · simp
  · refine List.map_congr_left fun i _ => ?_
    simp only [Function.comp, PyData.int.injEq]
    omega
theorem atI_map {xs : List Int} {k : Int} (h0 : 0 ≤ k) (h : k < (xs.length : Int)) : atI (xs.map PyData.int) k = some (.int (xs.getD k.toNat 0)) := by
  rw [atI_pos h0, List.getElem?_map, List.getD_eq_getElem?_getD, List.getElem?_eq_getElem (show k.toNat < xs.length by omega)]
  rfl
/-! ### cells and rows -/
theorem cell_spec (ns : List Int) (k : Int) (h0 : 0 ≤ k) : f_law_cell [scr ns, .int k] = .ok (.dat (.int (cellAt ns k.toNat))) := by
  unfold f_law_cell o_law_cell scr
  by_cases h : k < (ns.length : Int)
  · have := gIx_s (atI_map h0 h)
    walk_at "evs"
    rfl
  · walk_at "evs"
    simp only [cellAt]
    rw [List.getD_eq_getElem?_getD, List.getElem?_eq_none (by omega)]
    rfl
/-! ### laws of append loops -/
theorem row_loopA (c n s : Int) (hs : 0 < s) (hs2 : s < 18446744073709551616) (x4 x7 : Option Sl) (row : List Int) (ds : List PyData) (x5 : Option Sl) (rest : Int) (hb : row.length + ds.length ≤ 1000000) :
    ∃ new x5' rest', new.length = ds.length ∧ (∀ x ∈ new, 0 ≤ x ∧ x < s) ∧ oFor (bN 5) (oSeq (oMutS (mMut 3 gAppend (aCons (eOp gMod (eVar 6) (eVar 2)) aNil))) (oSet 6 (eOp gDiv (eVar 6) (eVar 2)))) ds
      [some (.dat (.int c)), some (.dat (.int n)), some (.dat (.int s)), some (.own (.list (row.map PyData.int))), x4, x5, some (.dat (.int rest)), x7] =
      .nx [some (.dat (.int c)), some (.dat (.int n)), some (.dat (.int s)), some (.own (.list ((row ++ new).map PyData.int))), x4, x5', some (.dat (.int rest')), x7] := by
  induction ds generalizing row x5 rest with
  | nil => exact ⟨[], x5, rest, rfl, fun x h => (nomatch h), by rw [List.append_nil]; rfl⟩
  | cons d ds ih =>
    obtain ⟨new, x5', rest', h1, h2, h3⟩ := ih (row ++ [rest % s]) (some (.dat d)) (rest / s) (by simp at hb ⊢; omega)
    refine ⟨rest % s :: new, x5', rest', by simp [h1], ?_, ?_⟩
    · intro x hx
      rcases List.mem_cons.mp hx with e | hx
      · rw [e]
        exact ⟨Int.emod_nonneg _ (by omega), Int.emod_lt_of_pos _ hs⟩
      · exact h2 x hx
    · unfold oFor
      have hbig : row.length + 1 ≤ 16777216 := by simp at hb; omega
      clear ih h1 h2
      walk_at "ev"
      walk_at "evs"
      rw [show row.map PyData.int ++ [PyData.int (rest % s)] = (row ++ [rest % s]).map PyData.int by simp, show row ++ rest % s :: new = (row ++ [rest % s]) ++ new by simp]
      exact h3
theorem row_loopB (c n s : Int) (hs : 0 < s) (hs2 : s < 18446744073709551616) (x6 : Option Sl) (row : List Int) (k : Nat) (m : Nat) (x5 x7 : Option Sl) (seed : Int) (h0 : 0 ≤ seed) (h1 : seed < 2147483647) (hb : row.length + m ≤ 1000000) (hk : k + m ≤ 1000000) :
    ∃ new seed' x5' x7', new.length = m ∧ (∀ x ∈ new, 0 ≤ x ∧ x < s) ∧ oFor (bN 5) (oSeq (oSet 4 (eOp gMod (eOp gAdd (eOp gAdd (eOp gMul (eVar 4) (eC (.int 48271))) (eC (.int 12345))) (eVar 5)) (eC (.int 2147483647))))
    (oSeq (oSet 7 (eOp gMod (eOp gDiv (eOp gMul (eVar 4) (eOp gAdd (eOp gMod (eVar 4) (eC (.int 65521))) (eC (.int 3)))) (eC (.int 1009))) (eC (.int 1000003))))
    (oMutS (mMut 3 gAppend (aCons (eOp gMod (eVar 7) (eVar 2)) aNil))))) (rng k m)
      [some (.dat (.int c)), some (.dat (.int n)), some (.dat (.int s)), some (.own (.list (row.map PyData.int))), some (.dat (.int seed)), x5, x6, x7] =
      .nx [some (.dat (.int c)), some (.dat (.int n)), some (.dat (.int s)), some (.own (.list ((row ++ new).map PyData.int))), some (.dat (.int seed')), x5', x6, x7'] := by
  induction m generalizing row k x5 x7 seed with
  | zero => exact ⟨[], seed, x5, x7, rfl, fun x h => (nomatch h), by rw [List.append_nil]; rfl⟩
  | succ m ih =>
    have hrng : rng (k : Int) (m + 1) = .int k :: rng ((k + 1 : Nat) : Int) m := rng_succ k m
    generalize hsd0 : (seed * 48271 + 12345 + k) % 2147483647 = sd
    have hsd : 0 ≤ sd ∧ sd < 2147483647 := hsd0 ▸ ⟨Int.emod_nonneg _ (by decide), Int.emod_lt_of_pos _ (by decide)⟩
    generalize hmx : sd * (sd % 65521 + 3) / 1009 % 1000003 = mx
    obtain ⟨new, seed', x5', x7', q1, q2, q3⟩ := ih (row ++ [mx % s]) (k + 1) (some (.dat (.int k))) (some (.dat (.int mx))) sd hsd.1 hsd.2 (by simp; omega) (by omega)
    refine ⟨mx % s :: new, seed', x5', x7', by simp [q1], ?_, ?_⟩
    · intro x hx
      rcases List.mem_cons.mp hx with e | hx
      · rw [e]
        exact ⟨Int.emod_nonneg _ (by omega), Int.emod_lt_of_pos _ hs⟩
      · exact q2 x hx
    · rw [hrng]
      unfold oFor
      have hbig : row.length + 1 ≤ 16777216 := by omega
      have s1 : -18446744073709551616 < seed ∧ seed < 18446744073709551616 := by omega
      have s2 : -18446744073709551616 < sd ∧ sd < 18446744073709551616 := by omega
      clear ih q1 q2 hrng h0 h1 hb hk hsd
      walk_at "ev"
      walk_at "evs"
      rw [show row ++ mx % s :: new = (row ++ [mx % s]) ++ new by simp, ← q3]
      simp only [List.map_append, List.map_cons, List.map_nil]
/-- a row drawn from a cell -/
theorem row_spec (c n s : Int) (hn : n ≤ 1000) (hn0 : -1000 ≤ n) (hs : 0 < s) (hs2 : s < 18446744073709551616) : ∃ row : List Int, row.length = n.toNat ∧ (∀ x ∈ row, 0 ≤ x ∧ x < s) ∧ f_law_row [.int c, .int n, .int s] = .ok (.own (.list (row.map PyData.int))) := by
  have hn1 : n ≤ 1000000 := by omega
  have hn2 : -1000000 ≤ n := by omega
  obtain ⟨new, x5, rest, a1, a2, a3⟩ := row_loopA c n s hs hs2 none none [] (rng 0 n.toNat) none (c - 1000000000000000000) (by rw [rng_length]; simp; omega)
  obtain ⟨new2, seed, x5', x7, b1, b2, b3⟩ := row_loopB c n s hs hs2 none [] 0 n.toNat none none (c % 2147483647) (Int.emod_nonneg _ (by decide)) (Int.emod_lt_of_pos _ (by decide)) (by simp; omega) (by omega)
  rw [rng_length] at a1
  simp only [List.map_nil, List.nil_append, Int.ofNat_zero] at a3 b3
  unfold f_law_row o_law_row
  by_cases hc : 1000000000000000000 ≤ c
  · refine ⟨new, a1, a2, ?_⟩
    clear b1 b2 b3 a1 a2
    walk_at "evs"
  · refine ⟨new2, b1, b2, ?_⟩
    clear a1 a2 a3 b1 b2
    walk_at "evs"
end Dl
/-! Plain laws of the meanings: data of whole numbers, loops over typed lists, rows. -/
namespace Dl
open PySem PySem.Spec PyProof.Rows L2
/-! ### data of whole numbers -/
def dn : Nat → PyData → Bool
  | _, .int _ => true
  | n + 1, .tuple xs => xs.all (dn n)
  | n + 1, .list xs => xs.all (dn n)
  | _, _ => false
theorem dn_int (n : Nat) (i : Int) : dn n (.int i) = true := by cases n <;> rfl
theorem dn_eqvAll {f g : PyData → Bool} : ∀ (xs ys : List PyData), (∀ x ∈ xs, ∀ y ∈ ys, f x = true → g y = true → (PyData.eqv x y = true ↔ x = y)) → xs.all f = true → ys.all g = true → (PyData.eqvAll xs ys = true ↔ xs = ys)
  | [], [], _, _, _ => by simp [PyData.eqvAll]
  | [], _ :: _, _, _, _ => by simp [PyData.eqvAll]
  | _ :: _, [], _, _, _ => by simp [PyData.eqvAll]
  | x :: xs, y :: ys, h, h1, h2 => by
    simp only [List.all_cons, Bool.and_eq_true] at h1 h2
    simp only [PyData.eqvAll, Bool.and_eq_true, List.cons.injEq, h x (List.mem_cons_self ..) y (List.mem_cons_self ..) h1.1 h2.1, dn_eqvAll xs ys (fun a ha b hb => h a (List.mem_cons_of_mem _ ha) b (List.mem_cons_of_mem _ hb)) h1.2 h2.2]
theorem dn_eqv : ∀ (n m : Nat) (d e : PyData), dn n d = true → dn m e = true → (PyData.eqv d e = true ↔ d = e) := by
  intro n
  induction n with
  | zero =>
    intro m d e h h2
    cases d <;> try (simp [dn] at h; done)
    cases m <;> cases e <;> first | (simp [dn] at h2; done) | (simp [PyData.eqv]; done)
  | succ n ih =>
    intro m d e h h2
    cases d <;> try (simp [dn] at h; done)
    all_goals (cases m <;> cases e <;> try (first | (simp [dn] at h2; done) | (simp [PyData.eqv]; done)))
    · simp only [PyData.eqv, PyData.list.injEq]
      exact dn_eqvAll _ _ (fun x _ y _ hx hy => ih _ x y hx hy) h h2
    · simp only [PyData.eqv, PyData.tuple.injEq]
      exact dn_eqvAll _ _ (fun x _ y _ hx hy => ih _ x y hx hy) h h2
theorem dn_all {f : PyData → Bool} {n : Nat} (hf : ∀ d, f d = true → d.canLay0 = true ∧ d.depth ≤ n) : ∀ xs : List PyData, xs.all f = true → PyData.canLayAll0 xs = true ∧ PyData.depthAll xs ≤ n
  | [], _ => ⟨rfl, Nat.zero_le _⟩
  | x :: xs, h => by
    simp only [List.all_cons, Bool.and_eq_true] at h
    have h1 := hf x h.1
    have h2 := dn_all hf xs h.2
    simp only [PyData.canLayAll0, PyData.depthAll, h1.1, h2.1, Bool.and_self, true_and]
    omega
theorem dn_lay : ∀ (n : Nat) (d : PyData), dn n d = true → d.canLay0 = true ∧ d.depth ≤ n := by
  intro n
  induction n with
  | zero =>
    intro d h
    cases d <;> first | (simp [dn] at h; done) | exact ⟨by simp [PyData.canLay0], by simp [PyData.depth]⟩
  | succ n ih =>
    intro d h
    cases d <;> try (first | (simp [dn] at h; done) | (constructor <;> (simp [PyData.canLay0, PyData.depth]; done)))
    all_goals
      have h2 := dn_all (n := n) ih _ h
      simp only [PyData.canLay0, PyData.depth]
      exact ⟨h2.1, by omega⟩
theorem dn_shaped {n : Nat} {d : PyData} (h : dn n d = true) (hn : n ≤ 64) : SeqAt.shaped d = true := by
  have := dn_lay n d h
  unfold SeqAt.shaped
  rw [this.1, Bool.true_and]
  exact decide_eq_true (by omega)
theorem dn_ints (n : Nat) (xs : List Int) : (xs.map PyData.int).all (dn n) = true := List.all_eq_true.mpr fun d hd => by
  obtain ⟨i, _, e⟩ := List.mem_map.mp hd
  rw [← e]
  exact dn_int n i
theorem dn_row (xs : List Int) : dn 1 (rowD xs) = true := dn_ints 0 xs
theorem dn_lst {α : Type} {n : Nat} {f : α → PyData} (h : ∀ a, dn n (f a) = true) (xs : List α) : dn (n + 1) (.list (xs.map f)) = true := List.all_eq_true.mpr fun d hd => by
  obtain ⟨i, _, e⟩ := List.mem_map.mp hd
  rw [← e]
  exact h i
/-- a pair of rows -/
abbrev prD (p : List Int × List Int) : PyData := .tuple [rowD p.1, rowD p.2]
/-! ### order of rows -/
def cmpL (op : CmpOp) : List Int → List Int → Bool
  | [], [] => cmpI op 0 0
  | [], _ :: _ => cmpI op 0 1
  | _ :: _, [] => cmpI op 1 0
  | x :: xs, y :: ys => if x = y then cmpL op xs ys else cmpI op x y
theorem lexD_ints {op : CmpOp} {n : Nat} : ∀ (a b : List Int), lexD op (cmpD op (n + 1)) (a.map PyData.int) (b.map PyData.int) = some (cmpL op a b)
  | [], [] => rfl
  | [], _ :: _ => rfl
  | _ :: _, [] => rfl
  | x :: xs, y :: ys => by
    have e : PyData.eqv (.int x) (.int y) = decide (x = y) := by simp only [PyData.eqv]; rfl
    simp only [List.map_cons, lexD, e, lexD_ints xs ys, cmpL, decide_eq_true_eq]
    split <;> rfl
theorem cmpD_row {op : CmpOp} {n : Nat} {a b : List Int} : cmpD op (n + 2) (rowD a) (rowD b) = some (cmpL op a b) := lexD_ints a b
theorem dn_cmp {n m : Nat} {d e : PyData} {op : CmpOp} {b : Bool} (h : dn n d = true) (h2 : dn m e = true) (hn : n ≤ 30) (hm : m ≤ 30) (hc : cmpD op 4 d e = some b) : gCmp op d e = retB b := by
  unfold gCmp
  split
  · rename_i i j
    have : cmpD op 4 (.int i) (.int j) = some (cmpI op i j) := rfl
    rw [this] at hc
    cases hc
    rfl
  · have k1 := dn_lay n d h
    have k2 := dn_lay m e h2
    rw [if_pos ⟨dn_shaped h (by omega), dn_shaped h2 (by omega), by omega, by omega⟩, hc]
theorem gCmp_row {op : CmpOp} {a b : List Int} : gCmp op (rowD a) (rowD b) = retB (cmpL op a b) := dn_cmp (dn_row a) (dn_row b) (by decide) (by decide) cmpD_row
/-! ### loops over typed lists -/
theorem lcF_gen {α : Type} {bd : PyData → Env → M Env} {tt : Env → M Bool} {fe : Env → M Sl} {ρ : Env} {e : α → PyData} (p : α → Bool) (g : α → PyData) : ∀ (ls : List α), (∀ a ∈ ls, ∃ ρ1, bd (e a) ρ = .ok ρ1 ∧ tt ρ1 = .ok (p a) ∧ (p a = true → ∃ y, fe ρ1 = .ok y ∧ y.d = g a)) → lcF bd tt fe (ls.map e) ρ = .ok ((ls.filter p).map g)
  | [], _ => rfl
  | a :: ls, h => by
    obtain ⟨ρ1, h1, h2, h3⟩ := h a (List.mem_cons_self ..)
    have ih := lcF_gen p g ls fun b hb => h b (List.mem_cons_of_mem _ hb)
    rw [List.map_cons]
    unfold lcF
    rw [h1]
    simp only [noX, bind_ok, h2]
    cases hp : p a with
    | false => rw [if_neg (by decide), List.filter_cons_of_neg (by simp [hp])]; exact ih
    | true =>
      obtain ⟨y, h4, h5⟩ := h3 hp
      rw [if_pos rfl, h4, ih, List.filter_cons_of_pos hp]
      simp only [noX, bind_ok, List.map_cons, h5]
theorem lcF_map {α : Type} {bd : PyData → Env → M Env} {fe : Env → M Sl} {ρ : Env} {e : α → PyData} (g : α → PyData) (ls : List α) (h : ∀ a ∈ ls, ∃ ρ1, bd (e a) ρ = .ok ρ1 ∧ ∃ y, fe ρ1 = .ok y ∧ y.d = g a) : lcF bd (fun _ => .ok true) fe (ls.map e) ρ = .ok (ls.map g) := by
  have := lcF_gen (bd := bd) (tt := fun _ => .ok true) (fe := fe) (ρ := ρ) (e := e) (fun _ => true) g ls fun a ha => by
    obtain ⟨ρ1, h1, y, h2, h3⟩ := h a ha
    exact ⟨ρ1, h1, rfl, fun _ => ⟨y, h2, h3⟩⟩
  rwa [List.filter_eq_self.mpr fun _ _ => rfl] at this
theorem oFor_pre {α : Type} {bd : PyData → Env → M Env} {body : Env → O} {e : α → PyData} (P : List α → Env → Prop) (ls : List α) (ρ : Env) (h0 : P [] ρ)
    (st : ∀ pre a post ρ, ls = pre ++ a :: post → P pre ρ → ∃ ρ1 ρ2, bd (e a) ρ = .ok ρ1 ∧ (body ρ1 = .nx ρ2 ∨ body ρ1 = .ct ρ2) ∧ P (pre ++ [a]) ρ2) : ∃ ρ', oFor bd body (ls.map e) ρ = .nx ρ' ∧ P ls ρ' := by
  suffices H : ∀ (post pre : List α) (ρ : Env), ls = pre ++ post → P pre ρ → ∃ ρ', oFor bd body (post.map e) ρ = .nx ρ' ∧ P ls ρ' from H ls [] ρ rfl h0
  intro post
  induction post with
  | nil => exact fun pre ρ hl hp => ⟨ρ, rfl, by rw [hl, List.append_nil]; exact hp⟩
  | cons a post ih =>
    intro pre ρ hl hp
    obtain ⟨ρ1, ρ2, k1, k2, k3⟩ := st pre a post ρ hl hp
    obtain ⟨ρ', j1, j2⟩ := ih (pre ++ [a]) ρ2 (by rw [hl]; simp) k3
    refine ⟨ρ', ?_, j2⟩
    rw [List.map_cons]
    unfold oFor
    rw [k1, oOf_ok]
    rcases k2 with k2 | k2 <;> rw [k2] <;> exact j1
theorem rng_map (n : Nat) : rng 0 n = (List.range n).map fun (i : Nat) => PyData.int (i : Int) := by
  unfold rng
  exact List.map_congr_left fun i _ => by rw [Int.zero_add]
theorem zipD_ints (a b : List Int) : zipD (a.map PyData.int) (b.map PyData.int) = (a.zip b).map fun p => PyData.tuple [.int p.1, .int p.2] := by
  unfold zipD
  induction a generalizing b with
  | nil => rfl
  | cons x xs ih =>
    cases b with
    | nil => rfl
    | cons y ys => simp only [List.map_cons, List.zipWith_cons_cons, List.zip_cons_cons, ih]
end Dl
/-! Specs of the common defs. -/
namespace Dl
open PySem PySem.Spec PyProof.Rows L2
def seen (a b : List Int) : List Int := (a.zip b).map fun p => if p.1 = p.2 then p.1 else 2
theorem whole_spec (i : Int) : f_law_whole [.int i] = .ok (.dat (.bool true)) := by
  unfold f_law_whole o_law_whole
  walk_at "ev"
theorem zip_range_map {β : Type} (a b : List Int) (f : Int → Int → β) (h : b.length = a.length) : (List.range a.length).map (fun i => f (a.getD i 0) (b.getD i 0)) = (a.zip b).map fun p => f p.1 p.2 := by
  refine List.ext_getElem (by simp [h]) fun i h1 h2 => ?_
  simp at h1
  simp [List.getD_eq_getElem?_getD, h1, show i < b.length by omega]
theorem law_seen_spec (a b : List Int) (h : a.length ≤ 1000000) (hl : b.length = a.length) : f_law_seen [rowD a, rowD b] = .ok (.dat (rowD (seen a b))) := by
  obtain ⟨ρ', k1, k2⟩ := oFor_pre (bd := bN 3) (body := oMutS (mMut 2 gAppend (aCons (eIf (tOf (eOp gEq (eOp gIx (eVar 0) (eVar 3)) (eOp gIx (eVar 1) (eVar 3)))) (eOp gIx (eVar 0) (eVar 3)) (eC (.int 2))) aNil))) (e := fun (i : Nat) => PyData.int (i : Int))
    (fun pre ρ => ∃ x, ρ = [some (.dat (rowD a)), some (.dat (rowD b)), some (.own (.list ((pre.map fun i => if a.getD i 0 = b.getD i 0 then a.getD i 0 else 2).map PyData.int))), x]) (List.range a.length) [some (.dat (rowD a)), some (.dat (rowD b)), some (.own (.list [])), none] ⟨_, rfl⟩ fun pre i post ρ hl2 hp => by
      obtain ⟨z, rfl⟩ := hp
      have hi : i < a.length := by
        have : i ∈ List.range a.length := by rw [hl2]; simp
        exact List.mem_range.mp this
      have hpl : pre.length ≤ a.length := by
        have := congrArg List.length hl2
        simp at this
        omega
      have h1 := gIx_t (atI_map (xs := a) (k := i) (by omega) (by omega))
      have h2 := gIx_t (atI_map (xs := b) (k := i) (by omega) (by omega))
      have h4 : pre.length + 1 ≤ 16777216 := by omega
      rw [Int.toNat_natCast] at h1 h2
      refine ⟨_, [some (.dat (rowD a)), some (.dat (rowD b)), some (.own (.list (((pre ++ [i]).map fun i => if a.getD i 0 = b.getD i 0 then a.getD i 0 else 2).map PyData.int))), some (.dat (.int i))], by walk_at "ev"; rfl, .inl ?_, ?_⟩
      · clear hl2 h hl hi hpl
        rw [List.map_append, List.map_append]
        by_cases h3 : a.getD i 0 = b.getD i 0
        · walk_at "evs"
        · walk_at "evs"
      · exact ⟨_, rfl⟩
  obtain ⟨x, rfl⟩ := k2
  have hr := rng_map a.length
  have h1 : -1000000 ≤ (a.length : Int) := by omega
  have h2 : (a.length : Int) ≤ 1000000 := by omega
  unfold f_law_seen o_law_seen
  walk_at "evs"
  rw [Int.toNat_natCast]
  walk_at "evs"
  rw [zip_range_map a b (fun x y => if x = y then x else 2) hl]
  rfl
def pairUp (a b : List Int) : List Int × List Int := if cmpL .LtE a b = true then (a, b) else (b, a)
theorem pair_up_spec (a b : List Int) : f_law_pair_up [rowD a, rowD b] = .ok (.dat (prD (pairUp a b))) := by
  unfold f_law_pair_up o_law_pair_up
  have h := gCmp_row (op := .LtE) (a := a) (b := b)
  cases hc : cmpL .LtE a b with
  | true =>
    rw [hc] at h
    walk_at "evs"
    simp only [pairUp, hc]
    rfl
  | false =>
    rw [hc] at h
    walk_at "evs"
    simp only [pairUp, hc]
    rfl
theorem seen_comm (a b : List Int) : seen a b = seen b a := by
  unfold seen
  induction a generalizing b with
  | nil => cases b <;> rfl
  | cons x xs ih =>
    cases b with
    | nil => rfl
    | cons y ys =>
      simp only [List.zip_cons_cons, List.map_cons, ih]
      by_cases h : x = y
      · simp [h]
      · simp [h, Ne.symm h, eq_comm]
theorem seen_length (a b : List Int) (h : b.length = a.length) : (seen a b).length = a.length := by simp [seen, h]
theorem seen_getD (a b : List Int) (h : b.length = a.length) (i : Nat) (hi : i < a.length) : (seen a b).getD i 0 = if a.getD i 0 = b.getD i 0 then a.getD i 0 else 2 := by
  have hz : i < (seen a b).length := by rw [seen_length a b h]; exact hi
  rw [List.getD_eq_getElem?_getD, List.getElem?_eq_getElem hz, List.getD_eq_getElem?_getD, List.getElem?_eq_getElem hi, List.getD_eq_getElem?_getD, List.getElem?_eq_getElem (show i < b.length by omega)]
  simp [seen]
theorem getDP {P : Int → Prop} (a : List Int) (h : ∀ x ∈ a, P x) (i : Nat) (hi : i < a.length) : P (a.getD i 0) := by
  rw [List.getD_eq_getElem?_getD, List.getElem?_eq_getElem hi]
  exact h _ (List.getElem_mem hi)
/-- a plain row -/
def plainR (a : List Int) : Prop := ∀ x ∈ a, 0 ≤ x ∧ x < 2
theorem seen_marks (a b : List Int) (ha : plainR a) : ∀ x ∈ seen a b, 0 ≤ x ∧ x ≤ 2 := by
  intro x hx
  obtain ⟨p, hp, e⟩ := List.mem_map.mp hx
  have := ha p.1 (List.of_mem_zip hp).1
  split at e <;> omega
end Dl
/-! growing a tree -/
namespace Dl
open PySem PySem.Spec PyProof.Rows L2
def flipR (r : List Int) (m : Nat) : List Int := r.set m (1 - r.getD m 0)
theorem flip_spec (r : List Int) (m : Int) (h0 : 0 ≤ m) (hm : m < (r.length : Int)) (hl : r.length ≤ 1000000) : f_law_flip [rowD r, .int m] = .ok (.dat (rowD (flipR r m.toNat))) := by
  have hx := gIx_t (atI_map (xs := r) h0 hm)
  have s1 := cut_to (l := r.map PyData.int) h0 (by simp; omega)
  have s2 := cut_from (l := r.map PyData.int) (i := m + 1) (by omega) (by simp; omega)
  have t1 : ((r.map PyData.int).take m.toNat).length + 1 ≤ 16777216 := by simp; omega
  have t2 : ((r.map PyData.int).take m.toNat).length + 1 + ((r.map PyData.int).drop (m + 1).toNat).length ≤ 16777216 := by simp; omega
  have e : (r.map PyData.int).take m.toNat ++ [PyData.int (1 - r.getD m.toNat 0)] ++ (r.map PyData.int).drop (m + 1).toNat = (flipR r m.toNat).map PyData.int := by
    unfold flipR
    rw [List.set_eq_take_append_cons_drop, if_pos (by omega)]
    rw [show (m + 1).toNat = m.toNat + 1 by omega]
    simp
  unfold f_law_flip o_law_flip
  clear hl h0
  walk_at "evs"
/-! what the growing keeps -/
def pat (L : List (List Int)) (g : List Int) (i j : Nat) (x y : Bool) : Prop := ∃ r ∈ L, decide (r.getD i 0 ≠ g.getD i 0) = x ∧ decide (r.getD j 0 ≠ g.getD j 0) = y
def barL (L : List (List Int)) (g : List Int) (i j : Nat) : Prop := pat L g i j false true ∧ pat L g i j true false ∧ pat L g i j true true
structure Grown (g : List Int) (left : List Nat) (L : List (List Int)) : Prop where
  len : ∀ r ∈ L, r.length = g.length
  plain : ∀ r ∈ L, plainR r
  ne : L ≠ []
  nd : left.Nodup
  lt : ∀ m ∈ left, m < g.length
  same : ∀ m ∈ left, ∀ r ∈ L, r.getD m 0 = g.getD m 0
  free : ∀ i j, i ≠ j → ¬ barL L g i j
theorem flip_getD {r : List Int} {m k : Nat} (h : k ≠ m) : (flipR r m).getD k 0 = r.getD k 0 := by
  unfold flipR
  rw [List.getD_eq_getElem?_getD, List.getElem?_set_ne (Ne.symm h), List.getD_eq_getElem?_getD]
theorem flip_plain {r : List Int} {m : Nat} (h : plainR r) : plainR (flipR r m) := by
  intro x hx
  by_cases hm : m < r.length
  · rcases List.mem_or_eq_of_mem_set hx with hx | hx
    · exact h x hx
    · have := getDP r h m hm
      omega
  · unfold flipR at hx
    rw [List.set_eq_of_length_le (by omega)] at hx
    exact h x hx
/-- one more row, a flipped one of these -/
theorem Grown.step {g : List Int} {left : List Nat} {L M : List (List Int)} {r : List Int} {m k : Nat} (G : Grown g left L) (hk : left[k]? = some m) (hr : r ∈ L) (hM : ∀ x ∈ M, x ∈ L) : Grown g (left.eraseIdx k) (M ++ [flipR r m]) := by
  have hml : m ∈ left := List.mem_of_getElem? hk
  have hmg := G.lt m hml
  have hsub : ∀ x ∈ left.eraseIdx k, x ∈ left ∧ x ≠ m := by
    intro x hx
    refine ⟨List.mem_of_mem_eraseIdx hx, fun e => ?_⟩
    subst e
    have h1 := List.getElem?_eq_some_iff.mp hk
    obtain ⟨hk1, hk2⟩ := h1
    rw [List.mem_eraseIdx_iff_getElem?] at hx
    obtain ⟨i, hik, hi⟩ := hx
    exact hik ((List.getElem?_inj (List.getElem?_eq_some_iff.mp hi).1 G.nd).mp (by rw [hi, hk]))
  have hrl := G.len r hr
  refine ⟨?_, ?_, by simp, ?_, ?_, ?_, ?_⟩
  · intro x hx
    rcases List.mem_append.mp hx with hx | hx
    · exact G.len x (hM x hx)
    · rw [List.mem_singleton.mp hx]
      unfold flipR
      rw [List.length_set]
      exact hrl
  · intro x hx
    rcases List.mem_append.mp hx with hx | hx
    · exact G.plain x (hM x hx)
    · rw [List.mem_singleton.mp hx]
      exact flip_plain (G.plain r hr)
  · exact G.nd.sublist (List.eraseIdx_sublist ..)
  · exact fun x hx => G.lt x (hsub x hx).1
  · intro x hx y hy
    rcases List.mem_append.mp hy with hy | hy
    · exact G.same x (hsub x hx).1 y (hM y hy)
    · rw [List.mem_singleton.mp hy, flip_getD (hsub x hx).2]
      exact G.same x (hsub x hx).1 r hr
  · intro i j hij hb
    have old : ∀ {x y : Bool} {a b : Nat}, a ≠ m → b ≠ m → pat (M ++ [flipR r m]) g a b x y → pat L g a b x y := by
      rintro x y a b ha hb ⟨z, hz, h1, h2⟩
      rcases List.mem_append.mp hz with hz | hz
      · exact ⟨z, hM z hz, h1, h2⟩
      · rw [List.mem_singleton.mp hz, flip_getD ha] at h1
        rw [List.mem_singleton.mp hz, flip_getD hb] at h2
        exact ⟨r, hr, h1, h2⟩
    -- at m only the new row is unlike
    have only : ∀ {z : List Int}, z ∈ M ++ [flipR r m] → z.getD m 0 ≠ g.getD m 0 → z = flipR r m := by
      intro z hz hne
      rcases List.mem_append.mp hz with hz | hz
      · exact absurd (G.same m hml z (hM z hz)) hne
      · exact List.mem_singleton.mp hz
    by_cases hi : i = m
    · subst hi
      obtain ⟨_, ⟨z, hz, h1, h2⟩, ⟨w, hw, h3, h4⟩⟩ := hb
      have e1 := only hz (of_decide_eq_true h1)
      have e2 := only hw (of_decide_eq_true h3)
      rw [e1] at h2
      rw [e2, h2] at h4
      cases h4
    · by_cases hj : j = m
      · subst hj
        obtain ⟨⟨z, hz, h1, h2⟩, _, ⟨w, hw, h3, h4⟩⟩ := hb
        have e1 := only hz (of_decide_eq_true h2)
        have e2 := only hw (of_decide_eq_true h4)
        rw [e1] at h1
        rw [e2, h1] at h3
        cases h3
      · exact G.free i j hij ⟨old hi hj hb.1, old hi hj hb.2.1, old hi hj hb.2.2⟩
theorem Grown.skip {g : List Int} {left : List Nat} {L : List (List Int)} (k : Nat) (G : Grown g left L) : Grown g (left.eraseIdx k) L :=
  ⟨G.len, G.plain, G.ne, G.nd.sublist (List.eraseIdx_sublist ..), fun m hm => G.lt m (List.mem_of_mem_eraseIdx hm), fun m hm => G.same m (List.mem_of_mem_eraseIdx hm), G.free⟩
theorem Grown.start {g : List Int} (hg : plainR g) : Grown g (List.range g.length) [g] := by
  refine ⟨by simp, by simpa using hg, by simp, List.nodup_range, fun m hm => List.mem_range.mp hm, by simp, ?_⟩
  rintro i j _ ⟨⟨z, hz, _, h2⟩, _⟩
  rw [List.mem_singleton.mp hz] at h2
  simp at h2
/-! the walk -/
theorem eraseIdx_mapN {α β : Type} (f : α → β) : ∀ (l : List α) (k : Nat), (l.map f).eraseIdx k = (l.eraseIdx k).map f
  | [], _ => rfl
  | _ :: _, 0 => rfl
  | a :: l, k + 1 => by rw [List.map_cons, List.eraseIdx_cons_succ, List.eraseIdx_cons_succ, List.map_cons, eraseIdx_mapN f l k]
theorem popAt_spec {left : List Nat} {k : Int} (h0 : 0 ≤ k) (hk : k < (left.length : Int)) (hl : left.length ≤ 1000000) {d : Nat} (hd : left[k.toNat]? = some d) : gPopAt (left.map fun (i : Nat) => PyData.int (i : Int)) [.int k] = some ((left.eraseIdx k.toNat).map fun (i : Nat) => PyData.int (i : Int), .int (d : Int)) := by
  have hb : big left.length = true := big_lt (by omega)
  unfold gPopAt
  simp only [List.length_map, h0, hk, hb, and_self, if_true, List.getElem?_map, hd, Option.map_some]
  rw [eraseIdx_mapN]
theorem grown_spec (g : List Int) (c : Int) (hg : plainR g) (hl : g.length ≤ 1000) : ∃ (left : List Nat) (L : List (List Int)), L.length ≤ g.length + 1 ∧ Grown g left L ∧ f_law_grown [rowD g, .int c] = .ok (.own (.list (L.map rowD))) := by
  obtain ⟨st, s1, s2, s3⟩ := row_spec c g.length 840 (by omega) (by omega) (by omega) (by omega)
  rw [Int.toNat_natCast] at s1
  obtain ⟨ρ', k1, left, L, x4, x5, c1, c2, G, rfl⟩ := oFor_pre (bd := bN 4) (body := (oSeq (oMutA 5 (mMut 3 gPopAt (aCons (ePub (eOp gMod (eVar 4) (eCall gLen (aCons (eVar 3) aNil)))) aNil)))
    (oSeq (oIf (tOf (eOp gEq (eOp gMod (eOp gDiv (eVar 4) (eC (.int 8))) (eC (.int 7))) (eC (.int 6)))) oCt oNx)
    (oIf (tPub (tAndF (tOf (eOp gEq (eOp gMod (eOp gDiv (eVar 4) (eC (.int 8))) (eC (.int 7))) (eC (.int 5)))) (tOf (eOp (gCmp .Gt) (eCall gLen (aCons (eVar 2) aNil)) (eC (.int 1)))))) (oMutS (mMutM 2 gAppend (amCons (mCall f_law_flip (amCons (mMut 2 gPop aNil) (aCons (eVar 5) aNil))) aNil))) (oMutS (mMut 2 gAppend (aCons (ePub (eCall f_law_flip (aCons (eOp gIx (eVar 2) (eOp gMod (eOp gDiv (eVar 4) (eC (.int 56))) (eCall gLen (aCons (eVar 2) aNil)))) (aCons (eVar 5) aNil)))) aNil))))))) (e := PyData.int)
    (fun pre ρ => ∃ (left : List Nat) (L : List (List Int)) (x4 x5 : Option Sl), left.length + pre.length = g.length ∧ L.length ≤ pre.length + 1 ∧ Grown g left L ∧ ρ = [some (.dat (rowD g)), some (.dat (.int c)), some (.own (.list (L.map rowD))), some (.own (.list (left.map fun (i : Nat) => PyData.int (i : Int)))), x4, x5]) st
    [some (.dat (rowD g)), some (.dat (.int c)), some (.own (.list [rowD g])), some (.own (.list ((List.range g.length).map fun (i : Nat) => PyData.int (i : Int)))), none, none] ⟨List.range g.length, [g], none, none, by simp, by simp, Grown.start hg, rfl⟩ fun pre x post ρ hl2 hp => by
      obtain ⟨left, L, x4, x5, c1, c2, G, rfl⟩ := hp
      have c3 := congrArg List.length hl2
      simp at c3
      have hleft : 0 < (left.length : Int) := by omega
      have k0 : 0 ≤ x % (left.length : Int) := Int.emod_nonneg _ (by omega)
      have k1 : x % (left.length : Int) < left.length := Int.emod_lt_of_pos _ hleft
      generalize hk : x % (left.length : Int) = k at k0 k1
      have hd : ∃ d, left[k.toNat]? = some d := ⟨left[k.toNat]'(by omega), List.getElem?_eq_getElem (by omega)⟩
      obtain ⟨d, hd⟩ := hd
      have hp := popAt_spec k0 k1 (by omega) hd
      have hdg := G.lt d (List.mem_of_getElem? hd)
      have e1 : (left.eraseIdx k.toNat).length + (pre ++ [x]).length = g.length := by
        rw [List.length_eraseIdx, if_pos (by omega), List.length_append, List.length_singleton]
        omega
      have hLne : 0 < L.length := List.length_pos_iff.mpr G.ne
      have hm1 : (left.map fun (i : Nat) => PyData.int (i : Int)).length = left.length := List.length_map ..
      have q0 : (oMutA 5 (mMut 3 gPopAt (aCons (ePub (eOp gMod (eVar 4) (eCall gLen (aCons (eVar 3) aNil)))) aNil))) [some (.dat (rowD g)), some (.dat (.int c)), some (.own (.list (L.map rowD))), some (.own (.list (left.map fun (i : Nat) => PyData.int (i : Int)))), some (.dat (.int x)), x5] =
          .nx [some (.dat (rowD g)), some (.dat (.int c)), some (.own (.list (L.map rowD))), some (.own (.list ((left.eraseIdx k.toNat).map fun (i : Nat) => PyData.int (i : Int)))), some (.dat (.int x)), some (.dat (.int (d : Int)))] := by
        clear hl2 s1 s2 s3 G hdg e1 c1 c2 c3
        walk_at "evs"
      have hLl : L.length ≤ 2000 := by omega
      by_cases t6 : x / 8 % 7 = 6
      · refine ⟨_, [some (.dat (rowD g)), some (.dat (.int c)), some (.own (.list (L.map rowD))), some (.own (.list ((left.eraseIdx k.toNat).map fun (i : Nat) => PyData.int (i : Int)))), some (.dat (.int x)), some (.dat (.int (d : Int)))], rfl, .inr ?_, left.eraseIdx k.toNat, L, _, _, e1, by rw [List.length_append]; omega, G.skip _, rfl⟩
        rw [show ([some (.dat (rowD g)), some (.dat (.int c)), some (.own (.list (L.map rowD))), some (.own (.list (left.map fun (i : Nat) => PyData.int (i : Int)))), x4, x5] : Env).set 4 (some (.dat (.int x))) = [some (.dat (rowD g)), some (.dat (.int c)), some (.own (.list (L.map rowD))), some (.own (.list (left.map fun (i : Nat) => PyData.int (i : Int)))), some (.dat (.int x)), x5] from rfl]
        refine seqN q0 ?_
        clear q0 hp hd hl2 s1 s2 s3 G hdg e1 c1 c2 c3 hm1 hk
        walk_at "evs"
      · have E0 : ∀ (M : List (List Int)), (List.map rowD M).length = M.length := fun M => List.length_map ..
        have n1 : ((d : Nat) : Int) < (g.length : Int) := by omega
        by_cases t5 : x / 8 % 7 = 5 ∧ (1 : Int) < (L.length : Int)
        · obtain ⟨t5, t7⟩ := t5
          obtain ⟨L', r, rfl⟩ := (List.eq_nil_or_concat L).resolve_left G.ne
          rw [List.concat_eq_append] at *
          have hrl := G.len r (by simp)
          have hf := flip_spec r d (by omega) (by omega) (by omega)
          rw [Int.toNat_natCast] at hf
          have G2 := G.step (k := k.toNat) (r := r) (M := L') hd (by simp) (fun y hy => by simp [hy])
          have hpop : gPop ((L' ++ [r]).map rowD) [] = some (L'.map rowD, rowD r) := by
            unfold gPop
            simp [List.map_append]
          have hbl : (L'.map rowD).length + 1 ≤ 16777216 := by
            rw [List.length_map]
            simp at hLl
            omega
          refine ⟨_, [some (.dat (rowD g)), some (.dat (.int c)), some (.own (.list ((L' ++ [flipR r d]).map rowD))), some (.own (.list ((left.eraseIdx k.toNat).map fun (i : Nat) => PyData.int (i : Int)))), some (.dat (.int x)), some (.dat (.int (d : Int)))], rfl, .inl ?_, left.eraseIdx k.toNat, L' ++ [flipR r d], _, _, e1, by simp at c2 ⊢; omega, G2, rfl⟩
          rw [show ([some (.dat (rowD g)), some (.dat (.int c)), some (.own (.list ((L' ++ [r]).map rowD))), some (.own (.list (left.map fun (i : Nat) => PyData.int (i : Int)))), x4, x5] : Env).set 4 (some (.dat (.int x))) = [some (.dat (rowD g)), some (.dat (.int c)), some (.own (.list ((L' ++ [r]).map rowD))), some (.own (.list (left.map fun (i : Nat) => PyData.int (i : Int)))), some (.dat (.int x)), x5] from rfl]
          refine seqN q0 ?_
          clear q0 hp hd hl2 s1 s2 s3 G hdg e1 c1 c2 c3 hm1 hk hLl hLne G2 hrl k0 k1 E0 n1
          rw [List.length_append, List.length_singleton] at t7
          rw [List.length_map] at hbl
          refine seqN (ifN_f (by walk_at "evs") rfl) ?_
          refine ifN_t (by walk_at "evs") ?_
          rw [List.map_append, List.map_cons, List.map_nil] at hpop
          rw [List.map_append]
          clear t7
          walk_at "evs"
          simp only [List.map_append, List.map_cons, List.map_nil]
        · have y0 : 0 ≤ x / 56 % (L.length : Int) := Int.emod_nonneg _ (by omega)
          have y1 : x / 56 % (L.length : Int) < L.length := Int.emod_lt_of_pos _ (by omega)
          have hLz : (0 : Int) < (L.length : Int) := by omega
          generalize hy : x / 56 % (L.length : Int) = y at y0 y1
          obtain ⟨r, hr⟩ : ∃ r, L[y.toNat]? = some r := ⟨L[y.toNat]'(by omega), List.getElem?_eq_getElem (by omega)⟩
          have hrm := List.mem_of_getElem? hr
          have hrl := G.len r hrm
          have hix : gIx (.list (L.map rowD)) (.int y) = .ok (.dat (rowD r)) := gIx_l (by rw [atI_pos y0, List.getElem?_map, hr]; rfl)
          have hf := flip_spec r d (by omega) (by omega) (by omega)
          rw [Int.toNat_natCast] at hf
          have G2 := G.step (k := k.toNat) (r := r) (M := L) hd hrm (fun y hy => hy)
          have hbl : (L.map rowD).length + 1 ≤ 16777216 := by rw [List.length_map]; omega
          refine ⟨_, [some (.dat (rowD g)), some (.dat (.int c)), some (.own (.list ((L ++ [flipR r d]).map rowD))), some (.own (.list ((left.eraseIdx k.toNat).map fun (i : Nat) => PyData.int (i : Int)))), some (.dat (.int x)), some (.dat (.int (d : Int)))], rfl, .inl ?_, left.eraseIdx k.toNat, L ++ [flipR r d], _, _, e1, by simp; omega, G2, rfl⟩
          rw [show ([some (.dat (rowD g)), some (.dat (.int c)), some (.own (.list (L.map rowD))), some (.own (.list (left.map fun (i : Nat) => PyData.int (i : Int)))), x4, x5] : Env).set 4 (some (.dat (.int x))) = [some (.dat (rowD g)), some (.dat (.int c)), some (.own (.list (L.map rowD))), some (.own (.list (left.map fun (i : Nat) => PyData.int (i : Int)))), some (.dat (.int x)), x5] from rfl]
          refine seqN q0 ?_
          clear q0 hp hd hl2 s1 s2 s3 G hdg e1 c1 c2 c3 hm1 hk hLl hLne G2 hrl k0 k1 E0 n1 hrm hr y0 y1
          refine seqN (ifN_f (by walk_at "evs") rfl) ?_
          have hbl2 : L.length + 1 ≤ 16777216 := by rw [List.length_map] at hbl; exact hbl
          refine ifN_f ?_ ?_
          · by_cases t8 : x / 8 % 7 = 5
            · have t9 : ¬ ((1 : Int) < (L.length : Int)) := fun z => t5 ⟨t8, z⟩
              clear t5
              walk_at "evs"
            · clear t5
              walk_at "evs"
          · clear t5
            walk_at "evs"
            simp only [List.map_append, List.map_cons, List.map_nil]
  refine ⟨left, L, by omega, G, ?_⟩
  have h1 : (0 : Int) ≤ (g.length : Int) := by omega
  have h2 : (g.length : Int) ≤ 10000 := by omega
  have hr := rng_map g.length
  unfold f_law_grown o_law_grown
  refine fnO_rt rfl ?_
  refine seqN (by walk_at "ev"; rfl) ?_
  refine seqN (ρ' := [some (.dat (rowD g)), some (.dat (.int c)), some (.own (.list [rowD g])), some (.own (.list ((List.range g.length).map fun (i : Nat) => PyData.int (i : Int)))), none, none]) ?_ ?_
  · clear k1 s3 hg
    simp only [eLstRg1, oSet]
    walk_at "evs"
    rw [Int.toNat_natCast, hr]
  refine seqN (forN (by walk_at "evs") k1) ?_
  walk_at "ev"
end Dl
/-! rows against the founder -/
namespace Dl
open PySem PySem.Spec PyProof.Rows L2
def agM (x g : Int) : Int := if x = 2 then 2 else (x + g) % 2
def ag (a b : List Int) : List Int := (a.zip b).map fun p => agM p.1 p.2
theorem changed_spec (x g : Int) : f_changed_mark [.int x, .int g] = .ok (.dat (.int (agM x g))) := by
  unfold f_changed_mark o_changed_mark
  by_cases h : x = 2
  · walk_at "evs"
    simp only [agM, h, if_true]
  · walk_at "evs"
    simp only [agM, h, if_false]
theorem against_spec (a b : List Int) (h : a.length ≤ 1000000) : f_against [rowD a, rowD b] = .ok (.dat (rowD (ag a b))) := by
  have e := lcF_map (bd := bTup 2 (bCons (bN 2) (bCons (bN 3) bNil))) (fe := eCall f_changed_mark (aCons (eVar 2) (aCons (eVar 3) aNil))) (ρ := [some (.dat (rowD a)), some (.dat (rowD b)), none, none]) (e := fun p : Int × Int => PyData.tuple [.int p.1, .int p.2]) (fun p => .int (agM p.1 p.2)) (a.zip b) fun p _ => by
    have := changed_spec p.1 p.2
    exact ⟨_, by walk_at "ev"; rfl, _, by walk_at "evs"; rfl, rfl⟩
  have hb : (a.zip b).length ≤ 16777216 := by rw [List.length_zip]; omega
  unfold f_against o_against
  walk_at "ev"
  rw [zipD_ints, e]
  walk_at "evs"
  simp only [ag, rowD, List.map_map]
  rfl
/-- marks of a sight -/
def sightR (a : List Int) : Prop := ∀ x ∈ a, 0 ≤ x ∧ x ≤ 2
theorem law_against_spec (a b : List Int) (h : a.length ≤ 1000000) (hl : b.length = a.length) (ha : sightR a) (hb : ∀ x ∈ b, 0 ≤ x ∧ x < 2) : f_law_against [rowD a, rowD b] = .ok (.dat (rowD (ag a b))) := by
  obtain ⟨ρ', k1, k2⟩ := oFor_pre (bd := bN 3) (body := oIf (tOf (eOp gEq (eOp gIx (eVar 0) (eVar 3)) (eC (.int 2)))) (oMutS (mMut 2 gAppend (aCons (eC (.int 2)) aNil))) (oMutS (mMut 2 gAppend (aCons (eIf (tOf (eOp gEq (eOp gIx (eVar 0) (eVar 3)) (eOp gIx (eVar 1) (eVar 3)))) (eC (.int 0)) (eC (.int 1))) aNil)))) (e := fun (i : Nat) => PyData.int (i : Int))
    (fun pre ρ => ∃ x, ρ = [some (.dat (rowD a)), some (.dat (rowD b)), some (.own (.list ((pre.map fun i => agM (a.getD i 0) (b.getD i 0)).map PyData.int))), x]) (List.range b.length) [some (.dat (rowD a)), some (.dat (rowD b)), some (.own (.list [])), none] ⟨_, rfl⟩ fun pre i post ρ hl2 hp => by
      obtain ⟨z, rfl⟩ := hp
      have hi : i < b.length := by
        have : i ∈ List.range b.length := by rw [hl2]; simp
        exact List.mem_range.mp this
      have hpl : pre.length ≤ b.length := by
        have := congrArg List.length hl2
        simp at this
        omega
      have h1 := gIx_t (atI_map (xs := a) (k := i) (by omega) (by omega))
      have h2 := gIx_t (atI_map (xs := b) (k := i) (by omega) (by omega))
      have h4 : pre.length + 1 ≤ 16777216 := by omega
      rw [Int.toNat_natCast] at h1 h2
      have m1 := getDP a ha i (by omega)
      have m2 := getDP b hb i (by omega)
      refine ⟨_, [some (.dat (rowD a)), some (.dat (rowD b)), some (.own (.list (((pre ++ [i]).map fun i => agM (a.getD i 0) (b.getD i 0)).map PyData.int))), some (.dat (.int i))], by walk_at "ev"; rfl, .inl ?_, ⟨_, rfl⟩⟩
      clear hl2 h hl hi hpl ha hb
      rw [List.map_append, List.map_append]
      simp only [List.map_cons, List.map_nil]
      generalize a.getD i 0 = x at h1 m1
      generalize b.getD i 0 = y at h2 m2
      by_cases h3 : x = 2
      · simp only [agM, h3, if_true]
        subst h3
        clear m1 m2
        walk_at "evs"
      · by_cases h5 : x = y
        · have e : agM x y = 0 := by simp only [agM, h3, if_false]; omega
          rw [e]
          subst h5
          clear m1 m2 e
          walk_at "evs"
        · have e : agM x y = 1 := by simp only [agM, h3, if_false]; omega
          rw [e]
          clear m1 m2 e
          walk_at "evs"
  obtain ⟨x, rfl⟩ := k2
  have hr := rng_map b.length
  have h1 : -1000000 ≤ (b.length : Int) := by omega
  have h2 : (b.length : Int) ≤ 1000000 := by omega
  clear ha hb
  unfold f_law_against o_law_against
  walk_at "ev"
  simp only [rng1_i, h1, h2]
  walk_at "ev"
  rw [Int.toNat_natCast, hr, k1]
  walk_at "ev"
  rw [hl, zip_range_map a b agM hl]
  rfl
end Dl
/-! the law's split of a sight -/
namespace Dl
open PySem PySem.Spec PyProof.Rows L2
abbrev ipD (p : Int × Int) : PyData := .tuple [.int p.1, .int p.2]
end Dl
/-! k05 -/
namespace Dl
open PySem PySem.Spec PyProof.Rows L2
def ways (x : Int) : List Int := if x = 2 then [0, 1] else [x]
def showsL (x y : Int) : List (Int × Int) := if x = 2 ∧ y = 2 then [] else (ways x).flatMap fun a => (ways y).map fun b => (a, b)
theorem ways_spec (x : Int) : f_ways_of_mark [.int x] = .ok (.own (.list ((ways x).map PyData.int))) := by
  unfold f_ways_of_mark o_ways_of_mark
  by_cases h : x = 2
  · subst h
    walk_at "ev"
    rfl
  · walk_at "evs"
    simp only [ways, h, if_false]
    rfl
theorem gIn_ii (a b c : Int) : gIn (.int a) (.tuple [.int b, .int c]) = retB (decide (b = a) || decide (c = a)) := by
  have e (b : Int) : PyData.eqv (.int b) (.int a) = decide (b = a) := by simp only [PyData.eqv]; rfl
  unfold gIn gInB
  simp only [flatD, List.all_cons, List.all_nil, Bool.and_self, and_self, if_true, List.any_cons, List.any_nil, e, Bool.or_false, bindN_ok]
theorem three_of {x : Int} (h : 0 ≤ x ∧ x ≤ 2) : x = 0 ∨ x = 1 ∨ x = 2 := by omega
theorem shows_spec (s : List Int) (i j x y : Int) (hx : gIx (rowD s) (.int i) = .ok (.dat (.int x))) (hy : gIx (rowD s) (.int j) = .ok (.dat (.int y))) (mx : 0 ≤ x ∧ x ≤ 2) (my : 0 ≤ y ∧ y ≤ 2) :
    f_shows [rowD s, .int i, .int j] = .ok (.own (.list ((showsL x y).map ipD))) := by
  unfold f_shows o_shows
  refine fnO_rt rfl ?_
  have w1 := ways_spec x
  have w2 := ways_spec y
  rcases three_of mx with rfl | rfl | rfl <;> rcases three_of my with rfl | rfl | rfl <;> clear mx my <;> (try simp only [ways, show (0 : Int) ≠ 2 from by decide, show (1 : Int) ≠ 2 from by decide, if_true, if_false, List.map_cons, List.map_nil] at w1 w2) <;> walk_at "evs" <;> rfl
theorem sp_getD (s b : List Int) (h : b.length = s.length) (f : Int → Int → Int) (i : Nat) (hi : i < s.length) : ((s.zip b).map fun p => f p.1 p.2).getD i 0 = f (s.getD i 0) (b.getD i 0) := by
  have hz : i < ((s.zip b).map fun p => f p.1 p.2).length := by simp; omega
  rw [List.getD_eq_getElem?_getD, List.getElem?_eq_getElem hz, List.getD_eq_getElem?_getD, List.getElem?_eq_getElem hi, List.getD_eq_getElem?_getD, List.getElem?_eq_getElem (show i < b.length by omega)]
  simp
end Dl
/-! bars among rows -/
namespace Dl
open PySem PySem.Spec PyProof.Rows L2
theorem oFor_find {α : Type} {bd : PyData → Env → M Env} {body : Env → O} {e : α → PyData} (P : Env → Prop) (p : α → Bool) (out : α → Sl) : ∀ (ls : List α) (ρ : Env), P ρ →
    (∀ a ∈ ls, ∀ ρ, P ρ → ∃ ρ1, bd (e a) ρ = .ok ρ1 ∧ (p a = false → ∃ ρ2, (body ρ1 = .nx ρ2 ∨ body ρ1 = .ct ρ2) ∧ P ρ2) ∧ (p a = true → body ρ1 = .rt (out a))) →
    (∃ a, ls.find? p = some a ∧ oFor bd body (ls.map e) ρ = .rt (out a)) ∨ (ls.find? p = none ∧ ∃ ρ', oFor bd body (ls.map e) ρ = .nx ρ' ∧ P ρ')
  | [], ρ, h, _ => .inr ⟨rfl, ρ, rfl, h⟩
  | a :: ls, ρ, h, st => by
    obtain ⟨ρ1, h1, h2, h3⟩ := st a (List.mem_cons_self ..) ρ h
    rw [List.map_cons]
    cases hp : p a with
    | true =>
      refine .inl ⟨a, List.find?_cons_of_pos hp, ?_⟩
      unfold oFor
      rw [h1, oOf_ok, h3 hp]
    | false =>
      obtain ⟨ρ2, h4, h5⟩ := h2 hp
      have ih := oFor_find P p out ls ρ2 h5 fun b hb => st b (List.mem_cons_of_mem _ hb)
      rw [List.find?_cons_of_neg (by simp [hp])]
      have e1 : oFor bd body (e a :: ls.map e) ρ = oFor bd body (ls.map e) ρ2 := by
        conv => lhs; unfold oFor
        rw [h1, oOf_ok]
        rcases h4 with h4 | h4 <;> rw [h4]
      rw [e1]
      exact ih
/-! pairs of marks -/
abbrev npD (p : Nat × Nat) : PyData := .tuple [.int (p.1 : Int), .int (p.2 : Int)]
abbrev nD (i : Nat) : PyData := .int (i : Int)
def pairsL (n : Nat) : List (Nat × Nat) := (List.range n).flatMap fun k => ((List.range n).drop (k + 1)).map fun j => (k, j)
theorem mem_pairsL {n : Nat} {p : Nat × Nat} (h : p ∈ pairsL n) : p.1 < p.2 ∧ p.2 < n := by
  obtain ⟨k, hk, h⟩ := List.mem_flatMap.mp h
  obtain ⟨j, hj, rfl⟩ := List.mem_map.mp h
  obtain ⟨i, hi, e⟩ := List.mem_drop_iff_getElem.mp hj
  simp at e hi
  constructor
  · show k < j
    omega
  · show j < n
    omega
theorem enumD_range (n : Nat) : enumD ((List.range n).map nD) = (List.range n).map fun i => npD (i, i) := by
  unfold enumD
  refine List.ext_getElem (by simp) fun i h1 h2 => ?_
  simp
theorem pairs_spec (n : Nat) (hn : n ≤ 1000) : f_pairs_of [.list ((List.range n).map nD)] = .ok (.own (.list ((pairsL n).map npD))) := by
  obtain ⟨ρ', k1, acc, x2, x3, x4, h1, h2, rfl⟩ := oFor_pre (bd := bTup 2 (bCons (bN 2) (bCons (bN 3) bNil))) (body := oForE (iOf (eSl (eVar 0) (sSome (eOp gAdd (eVar 2) (eC (.int 1)))) sNone)) (bN 4) (oMutS (mMut 1 gAppend (aCons (eTup (aCons (eVar 3) (aCons (eVar 4) aNil))) aNil)))) (e := fun i => npD (i, i))
    (fun pre ρ => ∃ (acc : List (Nat × Nat)) (x2 x3 x4 : Option Sl), acc = pre.flatMap (fun k => ((List.range n).drop (k + 1)).map fun j => (k, j)) ∧ acc.length ≤ pre.length * 1000 ∧ ρ = [some (.dat (.list ((List.range n).map nD))), some (.own (.list (acc.map npD))), x2, x3, x4]) (List.range n)
    [some (.dat (.list ((List.range n).map nD))), some (.own (.list [])), none, none, none] ⟨[], _, _, _, rfl, by simp, rfl⟩ fun pre k post ρ hl hp => by
      obtain ⟨acc, x2, x3, x4, h1, h2, rfl⟩ := hp
      have hk : k < n := List.mem_range.mp (by rw [hl]; simp)
      have hpl : pre.length + 1 ≤ n := by
        have := congrArg List.length hl
        simp at this
        omega
      have hdl : ((List.range n).drop (k + 1)).length ≤ n := by simp
      obtain ⟨ρ', k1, x4', rfl⟩ := oFor_pre (bd := bN 4) (body := oMutS (mMut 1 gAppend (aCons (eTup (aCons (eVar 3) (aCons (eVar 4) aNil))) aNil))) (e := nD)
        (fun pre' ρ => ∃ x4, ρ = [some (.dat (.list ((List.range n).map nD))), some (.own (.list ((acc ++ pre'.map fun j => (k, j)).map npD))), some (.dat (nD k)), some (.dat (nD k)), x4]) ((List.range n).drop (k + 1))
        [some (.dat (.list ((List.range n).map nD))), some (.own (.list (acc.map npD))), some (.dat (nD k)), some (.dat (nD k)), x4] ⟨x4, by simp⟩ fun pre' j post' ρ hl' hp' => by
          obtain ⟨x4, rfl⟩ := hp'
          have hb : ((acc ++ pre'.map fun j => (k, j)).map npD).length + 1 ≤ 16777216 := by
            have h3 := congrArg List.length hl'
            rw [List.length_append, List.length_cons] at h3
            simp only [List.length_map, List.length_append]
            have : pre.length * 1000 ≤ 1000 * 1000 := Nat.mul_le_mul_right _ (by omega)
            omega
          refine ⟨_, [some (.dat (.list ((List.range n).map nD))), some (.own (.list ((acc ++ (pre' ++ [j]).map fun j => (k, j)).map npD))), some (.dat (nD k)), some (.dat (nD k)), some (.dat (nD j))], rfl, .inl ?_, some (.dat (nD j)), rfl⟩
          rw [List.map_append (f := fun j => (k, j)), ← List.append_assoc]
          generalize (acc ++ pre'.map fun j => (k, j)) = A at hb
          rw [List.length_map] at hb
          clear hl hl' h1 h2 hk hpl hdl hn
          walk_at "evs"
          simp only [List.map_append, List.map_cons, List.map_nil]
      refine ⟨_, [some (.dat (.list ((List.range n).map nD))), some (.own (.list ((acc ++ ((List.range n).drop (k + 1)).map fun j => (k, j)).map npD))), some (.dat (nD k)), some (.dat (nD k)), x4'], by walk_at "ev"; rfl, .inl ?_, acc ++ ((List.range n).drop (k + 1)).map (fun j => (k, j)), some (.dat (nD k)), some (.dat (nD k)), x4', by rw [h1, List.flatMap_append]; simp, ?_, rfl⟩
      · refine forN ?_ k1
        have s2 := cut_from (l := (List.range n).map nD) (i := (k : Int) + 1) (by omega) (by simp; omega)
        rw [show ((k : Int) + 1).toNat = k + 1 by omega] at s2
        clear k1 hl h1 h2 hpl hdl
        walk_at "evs"
        rw [List.map_drop]
      · rw [List.length_append, List.length_map, List.length_append, List.length_singleton]
        omega
  have h3 := enumD_range n
  unfold f_pairs_of o_pairs_of
  refine fnO_rt rfl ?_
  refine seqN (by walk_at "ev"; rfl) ?_
  refine seqN (forN (by walk_at "evs") k1) ?_
  rw [h1]
  walk_at "ev"
  rfl
/-! who shows what -/
def kk (x y : Int) : List Key := [.inl x, .inl y]
abbrev dE (es : List (PyData × PyData)) : PyData := .dict ((.bool true, .none) :: es)
theorem gNotInT_ip (p : Int × Int) (es : List (PyData × PyData)) : gNotInT (ipD p) (dE es) = retB (!es.any (isK (kk p.1 p.2))) := rfl
theorem gInT_fz (p : Int × Int) (es : List (PyData × PyData)) : gInT (fz [.int p.1, .int p.2]) (dE es) = retB (es.any (isK (kk p.1 p.2))) := rfl
theorem kk_inj {a b x y : Int} : kk a b = kk x y ↔ a = x ∧ b = y := by
  unfold kk
  simp
/-! the three -/
theorem has_all_spec (es : List (PyData × PyData)) : f_has_all [dE es] = .ok (.dat (.bool (es.any (isK (kk 0 1)) && (es.any (isK (kk 1 0)) && es.any (isK (kk 1 1)))))) := by
  have f := lcF_map (bd := bN 1) (fe := eOp gInT (eVar 1) (eVar 0)) (ρ := [some (.dat (dE es)), none]) (e := fun p : Int × Int => fz [.int p.1, .int p.2]) (fun p => .bool (es.any (isK (kk p.1 p.2)))) [(0, 1), (1, 0), (1, 1)] fun p _ => by
    have h := gInT_fz p es
    exact ⟨_, rfl, .dat (.bool (es.any (isK (kk p.1 p.2)))), by walk_at "evs", rfl⟩
  simp only [List.map_cons, List.map_nil] at f
  have g : ∀ a b c : Bool, gAllAny (fun bs => bs.all id) [.list [.bool a, .bool b, .bool c]] = retB (a && (b && c)) := by
    intro a b c
    cases a <;> cases b <;> cases c <;> rfl
  unfold f_has_all o_has_all
  walk_at "evs"
end Dl
/-! Sums over pairs of marks: lists in order, what stands in just one of two. -/
namespace Dl
open PySem PySem.Spec PyProof.Rows L2
theorem gInB_dn {α : Type} [DecidableEq α] (e : α → PyData) (n : Nat) (hn : ∀ a, dn n (e a) = true) (hs : n ≤ 60) (inj : ∀ a b, e a = e b → a = b) (x : α) (l : List α) : gInB (e x) (.list (l.map e)) = .ok (decide (x ∈ l)) := by
  have h1 : SeqAt.shaped (e x) = true := dn_shaped (hn x) (by omega)
  have h2 : SeqAt.shaped (.list (l.map e)) = true := dn_shaped (dn_lst hn l) (by omega)
  have h3 : ((l.map e).any fun z => PyData.eqv z (e x)) = decide (x ∈ l) := by
    rw [List.any_map]
    rw [Bool.eq_iff_iff, List.any_eq_true, decide_eq_true_eq]
    constructor
    · rintro ⟨y, hy, h⟩
      have := (dn_eqv n n _ _ (hn y) (hn x)).mp h
      rw [inj _ _ this] at hy
      exact hy
    · intro h
      exact ⟨x, h, (dn_eqv n n _ _ (hn x) (hn x)).mpr rfl⟩
  unfold gInB
  simp only [h1, h2, h3, and_self, if_true]
  split <;> rfl
theorem gIn_dn {α : Type} [DecidableEq α] (e : α → PyData) (n : Nat) (hn : ∀ a, dn n (e a) = true) (hs : n ≤ 60) (inj : ∀ a b, e a = e b → a = b) (x : α) (l : List α) : gIn (e x) (.list (l.map e)) = retB (decide (x ∈ l)) := by
  unfold gIn
  rw [gInB_dn e n hn hs inj]
  exact bindN_ok
theorem gNotIn_dn {α : Type} [DecidableEq α] (e : α → PyData) (n : Nat) (hn : ∀ a, dn n (e a) = true) (hs : n ≤ 60) (inj : ∀ a b, e a = e b → a = b) (x : α) (l : List α) : gNotIn (e x) (.list (l.map e)) = retB (!decide (x ∈ l)) := by
  unfold gNotIn
  rw [gInB_dn e n hn hs inj]
  exact bindN_ok
theorem dn_nD (a : Nat) : dn 0 (nD a) = true := dn_int 0 _
theorem dn_npD (p : Nat × Nat) : dn 1 (npD p) = true := dn_row [(p.1 : Int), (p.2 : Int)]
theorem nD_inj (a b : Nat) (h : nD a = nD b) : a = b := by
  injection h with h
  omega
theorem npD_inj (p q : Nat × Nat) (h : npD p = npD q) : p = q := by
  injection h with h
  injection h with h1 h2
  injection h2 with h2 _
  injection h1 with h1
  injection h2 with h2
  exact Prod.ext (by omega) (by omega)
/-! ### sorted -/
def leP (p q : Nat × Nat) : Bool := decide (p.1 < q.1 ∨ (p.1 = q.1 ∧ p.2 ≤ q.2))
def leN (a b : Nat) : Bool := decide (a ≤ b)
theorem srt_map {α : Type} (e : α → PyData) (le : α → α → Bool) (h : ∀ a b, PySem.W.dataLe false id (e a) (e b) = le a b) (l : List α) : srt (l.map e) = (l.mergeSort le).map e := by
  unfold srt
  exact (List.map_mergeSort (fun a _ b _ => (h a b).symm)).symm
theorem le_npD (p q : Nat × Nat) : PySem.W.dataLe false id (npD p) (npD q) = leP p q := by
  have h := congrFun (congrFun (PySem.W.dataLe_ii (fun p : Nat × Nat => (p.1 : Int)) (fun p => (p.2 : Int))) p) q
  unfold leP
  refine Eq.trans ?_ (h.trans ?_)
  · rfl
  · simp only [decide_eq_decide]
    omega
theorem le_nD (a b : Nat) : PySem.W.dataLe false id (nD a) (nD b) = leN a b := by
  have h := congrFun (congrFun (PySem.W.dataLe_int (fun a : Nat => (a : Int))) a) b
  unfold leN
  refine Eq.trans ?_ (h.trans ?_)
  · rfl
  · simp only [decide_eq_decide]
    omega
theorem srtOk_npD (l : List (Nat × Nat)) : srtOk (l.map npD) = true := by
  unfold srtOk
  simp only [Bool.and_eq_true, List.all_eq_true, Bool.or_eq_true, List.mem_map]
  refine ⟨?_, .inl ?_, ?_⟩
  · rintro _ ⟨p, _, rfl⟩ _ ⟨q, _, rfl⟩
    rfl
  · rintro _ ⟨p, _, rfl⟩
    rfl
  · rintro _ ⟨p, _, rfl⟩
    have := dn_lay 1 _ (dn_npD p)
    exact ⟨this.1, decide_eq_true (by omega)⟩
theorem srtOk_nD (l : List Nat) : srtOk (l.map nD) = true := by
  unfold srtOk
  simp only [Bool.and_eq_true, List.all_eq_true, Bool.or_eq_true, List.mem_map]
  refine ⟨?_, .inr ?_, ?_⟩
  · rintro _ ⟨p, _, rfl⟩ _ ⟨q, _, rfl⟩
    rfl
  · rintro _ ⟨p, _, rfl⟩
    rfl
  · rintro _ ⟨p, _, rfl⟩
    have := dn_lay 0 _ (dn_nD p)
    exact ⟨this.1, decide_eq_true (by omega)⟩
theorem sorted_npD (l : List (Nat × Nat)) : gSorted [.list (l.map npD)] = .ok (.own (.list ((l.mergeSort leP).map npD))) := by
  show (if srtOk (l.map npD) = true then M.ok (Sl.own (PyData.list (srt (l.map npD)))) else M.stuck) = _
  rw [srtOk_npD, if_pos rfl, srt_map npD leP le_npD]
theorem sorted_nD (l : List Nat) : gSorted [.list (l.map nD)] = .ok (.own (.list ((l.mergeSort leN).map nD))) := by
  show (if srtOk (l.map nD) = true then M.ok (Sl.own (PyData.list (srt (l.map nD)))) else M.stuck) = _
  rw [srtOk_nD, if_pos rfl, srt_map nD leN le_nD]
/-! ### what stands in just one of two -/
def unl {α : Type} [DecidableEq α] (le : α → α → Bool) (A B : List α) : List α := (A.filter (fun x => !decide (x ∈ B)) ++ B.filter (fun x => !decide (x ∈ A))).mergeSort le
theorem unlike_gen {α : Type} [DecidableEq α] (e : α → PyData) (n : Nat) (hn : ∀ a, dn n (e a) = true) (hs : n ≤ 60) (inj : ∀ a b, e a = e b → a = b) (le : α → α → Bool) (hs : ∀ l : List α, gSorted [.list (l.map e)] = .ok (.own (.list ((l.mergeSort le).map e)))) (A B : List α) (hl : A.length + B.length ≤ 1000000) :
    f_unlike [.list (A.map e), .list (B.map e)] = .ok (.own (.list ((unl le A B).map e))) := by
  have z := fun x l => gNotIn_dn e n hn (by assumption) inj x l
  have e1 := lcF_gen (bd := bN 3) (tt := tOf (eOp gNotIn (eVar 3) (eVar 1))) (fe := eVar 3) (ρ := [some (.dat (.list (A.map e))), some (.dat (.list (B.map e))), none, none]) (e := e) (fun x => !decide (x ∈ B)) e A fun a _ => by
    have za := z a B
    exact ⟨_, by walk_at "ev"; rfl, by walk_at "evs", fun _ => ⟨_, by walk_at "ev"; rfl, rfl⟩⟩
  have e2 := lcF_gen (bd := bN 3) (tt := tOf (eOp gNotIn (eVar 3) (eVar 0))) (fe := eVar 3) (ρ := [some (.dat (.list (A.map e))), some (.dat (.list (B.map e))), some (.dat (.list ((A.filter fun x => !decide (x ∈ B)).map e))), none]) (e := e) (fun x => !decide (x ∈ A)) e B fun a _ => by
    have za := z a A
    exact ⟨_, by walk_at "ev"; rfl, by walk_at "evs", fun _ => ⟨_, by walk_at "ev"; rfl, rfl⟩⟩
  have b1 := List.length_filter_le (fun x => !decide (x ∈ B)) A
  have b2 := List.length_filter_le (fun x => !decide (x ∈ A)) B
  have b3 : (A.filter fun x => !decide (x ∈ B)).length ≤ 16777216 := by omega
  have b4 : (B.filter fun x => !decide (x ∈ A)).length ≤ 16777216 := by omega
  have b5 := gAdd_ll (a := (A.filter fun x => !decide (x ∈ B)).map e) (b := (B.filter fun x => !decide (x ∈ A)).map e) (by rw [List.length_map, List.length_map]; omega)
  have b6 := hs (A.filter (fun x => !decide (x ∈ B)) ++ B.filter (fun x => !decide (x ∈ A)))
  rw [List.map_append] at b6
  unfold f_unlike o_unlike
  refine fnO_rt rfl ?_
  refine seqN (ρ' := [some (.dat (.list (A.map e))), some (.dat (.list (B.map e))), some (.own (.list ((A.filter fun x => !decide (x ∈ B)).map e))), none]) ?_ ?_
  · walk_at "ev"
    rw [e1]
    walk_at "evs"
  · walk_at "ev"
    rw [e2]
    walk_at "evs"
    rfl
theorem unlike_p (A B : List (Nat × Nat)) (hl : A.length + B.length ≤ 1000000) : f_unlike [.list (A.map npD), .list (B.map npD)] = .ok (.own (.list ((unl leP A B).map npD))) := unlike_gen npD 1 dn_npD (by decide) npD_inj leP sorted_npD A B hl
theorem unlike_n (A B : List Nat) (hl : A.length + B.length ≤ 1000000) : f_unlike [.list (A.map nD), .list (B.map nD)] = .ok (.own (.list ((unl leN A B).map nD))) := unlike_gen nD 0 dn_nD (by decide) nD_inj leN sorted_nD A B hl
end Dl
/-! Sums: added, lessened. -/
namespace Dl
open PySem PySem.Spec PyProof.Rows L2
structure Sm where
  ps : List (Nat × Nat)
  b : Nat
  md : List Nat
abbrev smD (r : Sm) : PyData := .tuple [.list (r.ps.map npD), .int (r.b : Int), .list (r.md.map nD)]
def addS (r m : Sm) : Sm := ⟨unl leP r.ps m.ps, (r.b + m.b) % 2, unl leN r.md m.md⟩
theorem summed_spec (r m : Sm) (h1 : r.ps.length + m.ps.length ≤ 1000000) (h2 : r.md.length + m.md.length ≤ 1000000) : f_summed [smD r, smD m] = .ok (.dat (smD (addS r m))) := by
  have a1 := unlike_p r.ps m.ps h1
  have a2 := unlike_n r.md m.md h2
  have i0 : ∀ x : Sm, gIx (smD x) (.int 0) = .ok (.dat (.list (x.ps.map npD))) := fun x => gIx_t rfl
  have i1 : ∀ x : Sm, gIx (smD x) (.int 1) = .ok (.dat (.int x.b)) := fun x => gIx_t rfl
  have i2 : ∀ x : Sm, gIx (smD x) (.int 2) = .ok (.dat (.list (x.md.map nD))) := fun x => gIx_t rfl
  have em : gMod (.int ((r.b : Int) + m.b)) (.int 2) = retI (((r.b + m.b) % 2 : Nat) : Int) := by
    rw [gMod_ii (by decide)]
    congr 3
  unfold f_summed o_summed
  refine fnO_rt rfl ?_
  simp only [oRet, eTup, aCons, aNil, eCall, eOp, eVar, eC, List.map_cons, List.map_nil, List.cons_append, List.nil_append, List.getElem?_cons_zero, List.getElem?_cons_succ, bindN_ok, Sl.d_dat, Sl.d_own, i0, i1, i2, a1, a2, gAdd_ii, retI, em, List.length_cons, List.length_nil, big, Nat.reduceAdd, Nat.reduceLeDiff, decide_true, if_true, oOfN_ok]
  rfl
/-- the last pair -/
def lst (m : Sm) : Nat × Nat := m.ps.getLastD (0, 0)
theorem last_ix {α : Type} (e : α → PyData) (l : List α) (d : α) (h : l ≠ []) : gIx (.list (l.map e)) (.int (-1)) = .ok (.dat (e (l.getLastD d))) := by
  have hp : 0 < l.length := List.length_pos_iff.mpr h
  refine gIx_l ?_
  unfold atI ixN
  rw [if_neg (by decide), if_pos (by rw [List.length_map]; omega)]
  show (l.map e)[((-1 : Int) + ((l.map e).length : Int)).toNat]? = _
  rw [List.length_map, show ((-1 : Int) + (l.length : Int)).toNat = l.length - 1 by omega, List.getElem?_map]
  rw [List.getLastD_eq_getLast?, List.getLast?_eq_getElem?]
  cases e : l[l.length - 1]? with
  | none =>
    rw [List.getElem?_eq_none_iff] at e
    omega
  | some a => rfl
def lessen (K : List Sm) (r : Sm) : Sm := K.foldl (fun r m => if lst m ∈ r.ps then addS r m else r) r
/-- an instance of Sums -/
abbrev suD (K : List Sm) : PyData := .dict [(.none, .str "Sums"), (.str "kept", .list (K.map smD))]
theorem fld_kept (d : PyData) : gFld "Sums" "kept" (.dict [(.none, .str "Sums"), (.str "kept", d)]) = .ok (.dat d) := by
  show (if ("Sums" : Str) = "Sums" then (match getF [(.str "kept", d)] "kept" with
    | some v => M.ok (Sl.dat v)
    | none => .stuck) else .stuck) = _
  rw [if_pos rfl]
  have : getF [(.str "kept", d)] "kept" = some d := by
    unfold getF isF
    simp
  rw [this]
/-- a bound that adding keeps: lists in order without repetition -/
structure OkS (N M : Nat) (r : Sm) : Prop where
  s : r.ps.Pairwise fun p q => leP p q = true ∧ p ≠ q
  n : ∀ p ∈ r.ps, p.1 < N ∧ p.2 < N
  b : r.b < 2
  t : r.md.Pairwise fun p q => p < q
  m : ∀ k ∈ r.md, k < M
theorem inc_len : ∀ (l : List Nat) (a b : Nat), l.Pairwise (· < ·) → (∀ x ∈ l, a ≤ x ∧ x < b) → l.length ≤ b - a
  | [], _, _, _, _ => Nat.zero_le _
  | x :: l, a, b, hp, hb => by
    rw [List.pairwise_cons] at hp
    have h1 := hb x (List.mem_cons_self ..)
    have h2 := inc_len l (x + 1) b hp.2 fun y hy => ⟨hp.1 y hy, (hb y (List.mem_cons_of_mem _ hy)).2⟩
    rw [List.length_cons]
    omega
theorem code_lt {N : Nat} {p q : Nat × Nat} (h : leP p q = true) (ne : p ≠ q) (h2 : p.2 < N) (h3 : q.2 < N) : p.1 * N + p.2 < q.1 * N + q.2 := by
  unfold leP at h
  rw [decide_eq_true_eq] at h
  rcases h with h | ⟨h, h'⟩
  · have : (p.1 + 1) * N ≤ q.1 * N := Nat.mul_le_mul_right N h
    rw [Nat.add_mul] at this
    omega
  · rw [h]
    have : p.2 ≠ q.2 := fun e => ne (Prod.ext h e)
    omega
theorem OkS.len {N M : Nat} {r : Sm} (h : OkS N M r) : r.ps.length ≤ N * N ∧ r.md.length ≤ M := by
  constructor
  · have e : (r.ps.map fun p => p.1 * N + p.2).length ≤ N * N - 0 := by
      refine inc_len _ 0 (N * N) ?_ ?_
      · rw [List.pairwise_map]
        refine h.s.imp_of_mem fun {p q} hp hq z => code_lt z.1 z.2 (h.n p hp).2 (h.n q hq).2
      · intro x hx
        obtain ⟨p, hp, rfl⟩ := List.mem_map.mp hx
        have := h.n p hp
        have h3 : (p.1 + 1) * N ≤ N * N := Nat.mul_le_mul_right N this.1
        rw [Nat.add_mul] at h3
        exact ⟨Nat.zero_le _, by omega⟩
    rw [List.length_map] at e
    omega
  · have := inc_len r.md 0 M h.t fun x hx => ⟨Nat.zero_le _, h.m x hx⟩
    omega
theorem unl_mem {α : Type} [DecidableEq α] {le : α → α → Bool} {A B : List α} {x : α} : x ∈ unl le A B ↔ (x ∈ A ∧ x ∉ B) ∨ (x ∈ B ∧ x ∉ A) := by
  unfold unl
  rw [List.mem_mergeSort, List.mem_append, List.mem_filter, List.mem_filter]
  simp
theorem unl_nodup {α : Type} [DecidableEq α] {le : α → α → Bool} {A B : List α} (ha : A.Nodup) (hb : B.Nodup) : (unl le A B).Nodup := by
  unfold unl
  refine (List.mergeSort_perm _ _).nodup_iff.mpr ?_
  rw [List.nodup_append]
  refine ⟨ha.filter _, hb.filter _, ?_⟩
  intro x hx y hy e
  subst e
  rw [List.mem_filter] at hx hy
  simp at hx hy
  exact hx.2 hy.1
theorem leP_trans (a b c : Nat × Nat) (h1 : leP a b = true) (h2 : leP b c = true) : leP a c = true := by
  unfold leP at *
  rw [decide_eq_true_eq] at *
  omega
theorem leP_total (a b : Nat × Nat) : (leP a b || leP b a) = true := by
  unfold leP
  rw [Bool.or_eq_true, decide_eq_true_eq, decide_eq_true_eq]
  omega
theorem leN_trans (a b c : Nat) (h1 : leN a b = true) (h2 : leN b c = true) : leN a c = true := by
  unfold leN at *
  rw [decide_eq_true_eq] at *
  omega
theorem leN_total (a b : Nat) : (leN a b || leN b a) = true := by
  unfold leN
  rw [Bool.or_eq_true, decide_eq_true_eq, decide_eq_true_eq]
  omega
theorem nodup_of_s {l : List (Nat × Nat)} (h : l.Pairwise fun p q => leP p q = true ∧ p ≠ q) : l.Nodup := h.imp fun z => z.2
theorem nodup_of_t {l : List Nat} (h : l.Pairwise (· < ·)) : l.Nodup := h.imp fun z => Nat.ne_of_lt z
theorem OkS.add {N M : Nat} {r m : Sm} (h : OkS N M r) (k : OkS N M m) : OkS N M (addS r m) := by
  refine ⟨?_, fun p hp => ?_, Nat.mod_lt _ (by decide), ?_, fun p hp => ?_⟩
  · have n := unl_nodup (le := leP) (nodup_of_s h.s) (nodup_of_s k.s)
    have s : (unl leP r.ps m.ps).Pairwise fun a b => leP a b = true := List.pairwise_mergeSort leP_trans leP_total _
    exact List.Pairwise.imp₂ (fun a b h1 h2 => ⟨h1, h2⟩) s n
  · rcases unl_mem.mp hp with ⟨z, _⟩ | ⟨z, _⟩
    · exact h.n p z
    · exact k.n p z
  · have n := unl_nodup (le := leN) (nodup_of_t h.t) (nodup_of_t k.t)
    have s : (unl leN r.md m.md).Pairwise fun a b => leN a b = true := List.pairwise_mergeSort leN_trans leN_total _
    refine List.Pairwise.imp₂ (fun a b h1 h2 => ?_) s n
    unfold leN at h1
    rw [decide_eq_true_eq] at h1
    exact Nat.lt_of_le_of_ne h1 h2
  · rcases unl_mem.mp hp with ⟨z, _⟩ | ⟨z, _⟩
    · exact h.m p z
    · exact k.m p z
theorem OkS.lessen {N M : Nat} : ∀ (K : List Sm) {r : Sm}, (∀ m ∈ K, OkS N M m) → OkS N M r → OkS N M (lessen K r)
  | [], _, _, h => h
  | m :: K, r, hk, h => by
    have ih := OkS.lessen K (r := if lst m ∈ r.ps then addS r m else r) (fun x hx => hk x (List.mem_cons_of_mem _ hx)) (by
      split
      · exact h.add (hk m (List.mem_cons_self ..))
      · exact h)
    exact ih
theorem lessened_spec (N M : Nat) (hN : N ≤ 100) (hM : M ≤ 200000) (K : List Sm) (r : Sm) (hk : ∀ m ∈ K, OkS N M m ∧ m.ps ≠ []) (hr : OkS N M r) : f_Sums_lessened [suD K, smD r] = .ok (.dat (smD (lessen K r))) := by
  have i0 : ∀ x : Sm, gIx (smD x) (.int 0) = .ok (.dat (.list (x.ps.map npD))) := fun x => gIx_t rfl
  have fk := fld_kept (.list (K.map smD))
  have hNN : N * N ≤ 10000 := Nat.le_trans (Nat.mul_le_mul hN hN) (by decide)
  have loop := oFor_pre (bd := bN 2) (body := oIf (tOf (eOp gIn (eOp gIx (eOp gIx (eVar 2) (eC (.int 0))) (eUn gNeg (eC (.int 1)))) (eOp gIx (eVar 1) (eC (.int 0))))) (oSet 1 (eCall f_summed (aCons (eVar 1) (aCons (eVar 2) aNil)))) oNx) (e := smD)
    (fun pre ρ => OkS N M (lessen pre r) ∧ ∃ x2, ρ = [some (.dat (suD K)), some (.dat (smD (lessen pre r))), x2]) K [some (.dat (suD K)), some (.dat (smD r)), none] ⟨hr, none, rfl⟩ ?_
  · obtain ⟨ρ', l1, l2, x2, rfl⟩ := loop
    unfold f_Sums_lessened o_Sums_lessened
    refine fnO_rt rfl ?_
    refine seqN (ρ' := [some (.dat (suD K)), some (.dat (smD (lessen K r))), x2]) ?_ ?_
    · refine Eq.trans ?_ l1
      show oForE _ _ _ [some (.dat (suD K)), some (.dat (smD r)), none] = _
      unfold oForE
      have : iOf (eUn (gFld "Sums" "kept") (eVar 0)) [some (.dat (suD K)), some (.dat (smD r)), none] = .ok (K.map smD) := by
        simp only [iOf, eUn, eVar, List.getElem?_cons_zero, bindN_ok, Sl.d_dat, fk, itemsD]
      rw [this, oOf_ok]
    · rfl
  · rintro pre a post ρ hK ⟨hp, x2, rfl⟩
    have ha := hk a (by rw [hK]; simp)
    have hL : lessen (pre ++ [a]) r = if lst a ∈ (lessen pre r).ps then addS (lessen pre r) a else lessen pre r := by
      unfold lessen
      rw [List.foldl_append]
      rfl
    rw [hL]
    generalize lessen pre r = q at hp ⊢
    have b1 := hp.len
    have b2 := ha.1.len
    have e1 := summed_spec q a (by omega) (by omega)
    have e2 : gIx (.list (a.ps.map npD)) (.int (-1)) = .ok (.dat (npD (lst a))) := last_ix npD a.ps (0, 0) ha.2
    have e3 := gIn_dn npD 1 dn_npD (by decide) npD_inj (lst a) q.ps
    have e4 : gNeg (.int 1) = .ok (.dat (.int (-1))) := rfl
    have ht : tOf (eOp gIn (eOp gIx (eOp gIx (eVar 2) (eC (.int 0))) (eUn gNeg (eC (.int 1)))) (eOp gIx (eVar 1) (eC (.int 0)))) [some (.dat (suD K)), some (.dat (smD q)), some (.dat (smD a))] = .ok (decide (lst a ∈ q.ps)) := by
      simp only [tOf, eOp, eUn, eVar, eC, List.getElem?_cons_zero, List.getElem?_cons_succ, bindN_ok, Sl.d_dat, i0, e2, e3, e4, retB, isB]
      exact congrArg Dl.M.ok (decide_eq_decide.mpr Iff.rfl)
    refine ⟨[some (.dat (suD K)), some (.dat (smD q)), some (.dat (smD a))], ?_⟩
    by_cases hm : lst a ∈ q.ps
    · rw [decide_eq_true hm] at ht
      rw [if_pos hm]
      refine ⟨_, rfl, .inl (ifN_t ht (r := .nx [some (.dat (suD K)), some (.dat (smD (addS q a))), some (.dat (smD a))]) ?_), hp.add ha.1, _, rfl⟩
      simp only [oSet, eCall, aCons, aNil, eVar, List.getElem?_cons_zero, List.getElem?_cons_succ, bindN_ok, Sl.d_dat, e1, oOfN_ok]
      rfl
    · rw [decide_eq_false hm] at ht
      rw [if_neg hm]
      exact ⟨_, rfl, .inl (ifN_f ht rfl), hp, _, rfl⟩
end Dl
/-! Sums: what is kept stays reduced. -/
namespace Dl
open PySem PySem.Spec PyProof.Rows L2
theorem leP_antisymm {p q : Nat × Nat} (h : leP p q = true) (k : leP q p = true) : p = q := by
  unfold leP at h k
  rw [decide_eq_true_eq] at h k
  exact Prod.ext (by omega) (by omega)
theorem leP_refl (p : Nat × Nat) : leP p p = true := by
  unfold leP
  rw [decide_eq_true_eq]
  omega
theorem last_mem {α : Type} {l : List α} (d : α) (h : l ≠ []) : l.getLastD d ∈ l := by
  rw [List.getLastD_eq_getLast?]
  cases e : l.getLast? with
  | none => exact absurd (List.getLast?_eq_none_iff.mp e) h
  | some a => exact List.mem_of_getLast? e
theorem lst_mem {m : Sm} (h : m.ps ≠ []) : lst m ∈ m.ps := last_mem _ h
theorem last_max : ∀ {l : List (Nat × Nat)} (d : Nat × Nat), (l.Pairwise fun p q => leP p q = true ∧ p ≠ q) → ∀ p ∈ l, leP p (l.getLastD d) = true
  | [], _, _, _, h => by cases h
  | [a], d, _, p, h => by
    rw [List.mem_singleton] at h
    subst h
    exact leP_refl p
  | a :: b :: l, d, hs, p, h => by
    rw [List.pairwise_cons] at hs
    have e : (a :: b :: l).getLastD d = (b :: l).getLastD a := rfl
    rw [e]
    rcases List.mem_cons.mp h with h | h
    · subst h
      exact (hs.1 _ (last_mem p (by simp))).1
    · exact last_max a hs.2 p h
theorem lst_max {N M : Nat} {m : Sm} (o : OkS N M m) {p : Nat × Nat} (h : p ∈ m.ps) : leP p (lst m) = true := last_max _ o.s p h
/-- the last is the one that stands behind all -/
theorem lst_eq {N M : Nat} {m : Sm} (o : OkS N M m) {p : Nat × Nat} (h : p ∈ m.ps) (k : ∀ q ∈ m.ps, leP q p = true) : lst m = p :=
  leP_antisymm (k _ (lst_mem (by intro e; rw [e] at h; cases h))) (lst_max o h)
theorem addS_mem {r m : Sm} {p : Nat × Nat} : p ∈ (addS r m).ps ↔ (p ∈ r.ps ∧ p ∉ m.ps) ∨ (p ∈ m.ps ∧ p ∉ r.ps) := unl_mem
structure Red (N M : Nat) (K : List Sm) : Prop where
  ok : ∀ m ∈ K, OkS N M m ∧ m.ps ≠ []
  pw : K.Pairwise fun x y => lst x ∉ y.ps ∧ lst y ∉ x.ps
theorem lessen_app (K : List Sm) (a r : Sm) : lessen (K ++ [a]) r = if lst a ∈ (lessen K r).ps then addS (lessen K r) a else lessen K r := by
  unfold lessen
  rw [List.foldl_append]
  rfl
theorem lessen_free {K : List Sm} {r : Sm} (h : ∀ m ∈ K, m.ps ≠ []) (pw : K.Pairwise fun x y => lst x ∉ y.ps ∧ lst y ∉ x.ps) : ∀ x ∈ K, lst x ∉ (lessen K r).ps := by
  suffices H : ∀ (post pre : List Sm), K = pre ++ post → (∀ x ∈ pre, lst x ∉ (lessen pre r).ps) → ∀ x ∈ K, lst x ∉ (lessen K r).ps from H K [] rfl (fun x hx => by cases hx)
  intro post
  induction post with
  | nil =>
    intro pre e hp
    rw [List.append_nil] at e
    subst e
    exact hp
  | cons a post ih =>
    intro pre e hp
    refine ih (pre ++ [a]) (by rw [e]; simp) ?_
    have pw' := pw
    rw [e, List.pairwise_append] at pw'
    obtain ⟨_, _, p3⟩ := pw'
    have ha : lst a ∈ a.ps := lst_mem (h a (by rw [e]; simp))
    intro x hx
    rw [lessen_app]
    rcases List.mem_append.mp hx with hx | hx
    · have h1 := hp x hx
      have h2 := (p3 x hx a (List.mem_cons_self ..)).1
      split
      · rw [addS_mem]
        exact fun z => z.elim (fun z => h1 z.1) (fun z => h2 z.1)
      · exact h1
    · rw [List.mem_singleton] at hx
      subst hx
      split
      · rename_i hm
        rw [addS_mem]
        exact fun z => z.elim (fun z => z.2 ha) (fun z => z.2 hm)
      · assumption
/-- one kept sum, as a new one comes in -/
def freed (m x : Sm) : Sm := if lst m ∈ x.ps then addS x m else x
theorem freed_ok {N M : Nat} {m x : Sm} (hm : OkS N M m) (nm : m.ps ≠ []) (hx : OkS N M x) (nx : x.ps ≠ []) (f : lst x ∉ m.ps) : OkS N M (freed m x) ∧ (freed m x).ps ≠ [] ∧ lst (freed m x) = lst x := by
  unfold freed
  split
  · rename_i h
    have o := hx.add hm
    have l1 : lst x ∈ (addS x m).ps := addS_mem.mpr (.inl ⟨lst_mem nx, f⟩)
    refine ⟨o, (fun e => by rw [e] at l1; cases l1), lst_eq o l1 fun q hq => ?_⟩
    rcases addS_mem.mp hq with ⟨z, _⟩ | ⟨z, _⟩
    · exact lst_max hx z
    · exact leP_trans _ _ _ (lst_max hm z) (lst_max hx h)
  · exact ⟨hx, nx, rfl⟩
theorem freed_not {m x : Sm} (nm : m.ps ≠ []) : lst m ∉ (freed m x).ps := by
  unfold freed
  split
  · rename_i h
    rw [addS_mem]
    exact fun z => z.elim (fun z => z.2 (lst_mem nm)) (fun z => z.2 h)
  · assumption
theorem freed_sub {m x : Sm} {p : Nat × Nat} (h : p ∉ x.ps) (k : p ∉ m.ps) : p ∉ (freed m x).ps := by
  unfold freed
  split
  · rw [addS_mem]
    exact fun z => z.elim (fun z => h z.1) (fun z => k z.1)
  · exact h
theorem Red.take {N M : Nat} {K : List Sm} {r : Sm} (h : Red N M K) (hr : OkS N M r) (ne : (lessen K r).ps ≠ []) : Red N M (K.map (freed (lessen K r)) ++ [lessen K r]) := by
  have om := OkS.lessen K (fun m hm => (h.ok m hm).1) hr
  have fr := lessen_free (r := r) (fun m hm => (h.ok m hm).2) h.pw
  generalize lessen K r = m at *
  refine ⟨?_, ?_⟩
  · intro x hx
    rcases List.mem_append.mp hx with hx | hx
    · obtain ⟨y, hy, rfl⟩ := List.mem_map.mp hx
      obtain ⟨z1, z2, _⟩ := freed_ok om ne (h.ok y hy).1 (h.ok y hy).2 (fr y hy)
      exact ⟨z1, z2⟩
    · rw [List.mem_singleton] at hx
      subst hx
      exact ⟨om, ne⟩
  · rw [List.pairwise_append, List.pairwise_map]
    refine ⟨?_, List.pairwise_singleton _ _, ?_⟩
    · refine h.pw.imp_of_mem fun {x y} hx hy z => ?_
      rw [(freed_ok om ne (h.ok x hx).1 (h.ok x hx).2 (fr x hx)).2.2, (freed_ok om ne (h.ok y hy).1 (h.ok y hy).2 (fr y hy)).2.2]
      exact ⟨freed_sub z.1 (fr x hx), freed_sub z.2 (fr y hy)⟩
    · intro x0 hx0 y hy
      obtain ⟨x, hx, rfl⟩ := List.mem_map.mp hx0
      rw [List.mem_singleton] at hy
      subst hy
      rw [(freed_ok om ne (h.ok x hx).1 (h.ok x hx).2 (fr x hx)).2.2]
      exact ⟨fr x hx, freed_not ne⟩
/-- a sum taken in -/
def takeK (K : List Sm) (r : Sm) : List Sm := if (lessen K r).ps = [] then K else K.map (freed (lessen K r)) ++ [lessen K r]
def takeR (K : List Sm) (r : Sm) : Option (List Nat) := if (lessen K r).ps = [] ∧ (lessen K r).b = 1 then some (lessen K r).md else none
theorem Red.takeK {N M : Nat} {K : List Sm} {r : Sm} (h : Red N M K) (hr : OkS N M r) : Red N M (takeK K r) := by
  unfold Dl.takeK
  split
  · exact h
  · exact h.take hr (by assumption)
theorem takeK_len (K : List Sm) (r : Sm) : (takeK K r).length ≤ K.length + 1 := by
  unfold takeK
  split
  · omega
  · simp
theorem Red.nil (N M : Nat) : Red N M [] := ⟨(fun m h => by cases h), .nil⟩
/-! ### what holds -/
def par {α : Type} (v : α → Nat) (l : List α) : Nat := (l.map v).sum % 2
def holds (v : Nat × Nat → Nat) (m : Sm) : Prop := par v m.ps = m.b
theorem par_perm {α : Type} {v : α → Nat} {a b : List α} (h : a.Perm b) : par v a = par v b := by
  unfold par
  rw [(h.map v).sum_nat]
theorem par_app {α : Type} (v : α → Nat) (a b : List α) : par v (a ++ b) = (par v a + par v b) % 2 := by
  unfold par
  rw [List.map_append, List.sum_append]
  omega
theorem par_split {α : Type} (v : α → Nat) (f : α → Bool) (a : List α) : par v a = (par v (a.filter f) + par v (a.filter fun x => !f x)) % 2 := by
  rw [← par_app]
  exact par_perm (List.filter_append_perm f a).symm
theorem nodup_common {α : Type} [DecidableEq α] {A B : List α} (ha : A.Nodup) (hb : B.Nodup) : (A.filter fun x => decide (x ∈ B)).Perm (B.filter fun x => decide (x ∈ A)) := by
  refine (List.perm_ext_iff_of_nodup (ha.filter _) (hb.filter _)).mpr fun x => ?_
  simp [List.mem_filter]
  exact And.comm
theorem par_unl {α : Type} [DecidableEq α] {le : α → α → Bool} (v : α → Nat) {A B : List α} (ha : A.Nodup) (hb : B.Nodup) : par v (unl le A B) = (par v A + par v B) % 2 := by
  have e1 := par_split v (fun x => decide (x ∈ B)) A
  have e2 := par_split v (fun x => decide (x ∈ A)) B
  have e3 := par_perm (v := v) (nodup_common ha hb)
  have e4 : par v (unl le A B) = _ := (par_perm (List.mergeSort_perm _ _)).trans (par_app v _ _)
  omega
theorem holds_add {N M : Nat} {v : Nat × Nat → Nat} {r m : Sm} (hr : OkS N M r) (hm : OkS N M m) (h : holds v m) : holds v (addS r m) ↔ holds v r := by
  unfold holds at *
  have e : par v (addS r m).ps = _ := par_unl v (nodup_of_s hr.s) (nodup_of_s hm.s)
  rw [e, h]
  show (par v r.ps + m.b) % 2 = (r.b + m.b) % 2 ↔ _
  have h1 := hr.b
  have h2 : par v r.ps < 2 := Nat.mod_lt _ (by decide)
  omega
theorem holds_lessen {N M : Nat} {v : Nat × Nat → Nat} : ∀ (K : List Sm) {r : Sm}, (∀ m ∈ K, OkS N M m) → OkS N M r → (∀ m ∈ K, holds v m) → (holds v (lessen K r) ↔ holds v r)
  | [], _, _, _, _ => Iff.rfl
  | m :: K, r, hk, hr, h => by
    have h1 := hk m (List.mem_cons_self ..)
    have h2 := h m (List.mem_cons_self ..)
    have ih := holds_lessen (v := v) K (r := if lst m ∈ r.ps then addS r m else r) (fun x hx => hk x (List.mem_cons_of_mem _ hx)) (by
      split
      · exact hr.add h1
      · exact hr) (fun x hx => h x (List.mem_cons_of_mem _ hx))
    refine ih.trans ?_
    split
    · exact holds_add hr h1 h2
    · exact Iff.rfl
theorem holds_freed {N M : Nat} {v : Nat × Nat → Nat} {x m : Sm} (hx : OkS N M x) (hm : OkS N M m) (h : holds v m) : holds v (freed m x) ↔ holds v x := by
  unfold freed
  split
  · exact holds_add hx hm h
  · exact Iff.rfl
/-- the ways that the kept sums leave -/
theorem holds_take {N M : Nat} {v : Nat × Nat → Nat} {K : List Sm} {r : Sm} (h : Red N M K) (hr : OkS N M r) (hn : takeR K r = none) : (∀ m ∈ takeK K r, holds v m) ↔ (∀ m ∈ K, holds v m) ∧ holds v r := by
  have ok := fun m hm => (h.ok m hm).1
  have om := OkS.lessen K ok hr
  have hl := holds_lessen (v := v) K ok hr
  unfold takeK
  unfold takeR at hn
  generalize lessen K r = m at *
  have zz : m.ps = [] → holds v m := by
    intro e
    have : ¬ m.b = 1 := fun z => by rw [if_pos ⟨e, z⟩] at hn; cases hn
    have := om.b
    unfold holds par
    rw [e]
    show 0 = m.b
    omega
  split
  · rename_i e
    exact ⟨fun z => ⟨z, (hl z).mp (zz e)⟩, fun z => z.1⟩
  · constructor
    · intro z
      have hm := z m (by simp)
      have hk : ∀ x ∈ K, holds v x := fun x hx => (holds_freed (ok x hx) om hm).mp (z _ (List.mem_append_left _ (List.mem_map_of_mem hx)))
      exact ⟨hk, (hl hk).mp hm⟩
    · rintro ⟨z1, z2⟩ x hx
      have hm := (hl z1).mpr z2
      rcases List.mem_append.mp hx with hx | hx
      · obtain ⟨y, hy, rfl⟩ := List.mem_map.mp hx
        exact (holds_freed (ok y hy) om hm).mpr (z1 y hy)
      · rw [List.mem_singleton] at hx
        subst hx
        exact hm
theorem holds_odd {N M : Nat} {v : Nat × Nat → Nat} {K : List Sm} {r : Sm} {l : List Nat} (h : Red N M K) (hr : OkS N M r) (hn : takeR K r = some l) : ¬ ((∀ m ∈ K, holds v m) ∧ holds v r) := by
  rintro ⟨z1, z2⟩
  have hm := (holds_lessen (v := v) K (fun m hm => (h.ok m hm).1) hr z1).mpr z2
  unfold takeR at hn
  split at hn
  · rename_i e
    unfold holds par at hm
    rw [e.1, e.2] at hm
    cases hm
  · cases hn
end Dl
/-! Sums.take. -/
namespace Dl
open PySem PySem.Spec PyProof.Rows L2
theorem seq2N {f g : S2 → O2} {s s' : S2} {r : O2} (h : f s = .nx s') (k : g s' = r) : o2Seq f g s = r := by
  unfold o2Seq
  rw [h]
  exact k
theorem seq2R {f g : S2 → O2} {s s' : S2} {sv : Sv} (h : f s = .rt sv s') : o2Seq f g s = .rt sv s' := by
  unfold o2Seq
  rw [h]
theorem set2N {i : Nat} {f : S2 → M2 Sv} {s s1 : S2} {sv : Sv} (h : f s = .ok sv s1) : o2Set i f s = .nx ⟨s1.ρ.set i (some sv), s1.C⟩ := by
  unfold o2Set
  rw [h]
  rfl
theorem ret2N {f : S2 → M2 Sv} {s s1 : S2} {sv : Sv} (h : f s = .ok sv s1) : o2Ret f s = .rt sv s1 := by
  unfold o2Ret
  rw [h]
  rfl
theorem if2_t {t : S2 → M2 Bool} {f g : S2 → O2} {s s1 : S2} {r : O2} (h : t s = .ok true s1) (k : f s1 = r) : o2If t f g s = r := by
  unfold o2If
  rw [h, oOf2_ok, if_pos rfl]
  exact k
theorem if2_f {t : S2 → M2 Bool} {f g : S2 → O2} {s s1 : S2} {r : O2} (h : t s = .ok false s1) (k : g s1 = r) : o2If t f g s = r := by
  unfold o2If
  rw [h, oOf2_ok, if_neg (by decide)]
  exact k
theorem liftE {f : Env → M Sl} {s : S2} {sl : Sl} (h : f (hide s.ρ) = .ok sl) : lift f s = .ok sl.sv s := by
  unfold lift
  rw [h]
theorem liftTE {f : Env → M Bool} {s : S2} {b : Bool} (h : f (hide s.ρ) = .ok b) : liftT f s = .ok b s := by
  unfold liftT
  rw [h]
theorem pubE {b : Bool} {f : Env → M Sl} {s : S2} {sl : Sl} (h : f (pubEnv b s) = .ok sl) (k : okSl b sl = true) : pub b f s = .ok sl.sv s := by
  unfold pub
  rw [h]
  exact if_pos k
theorem fz2E {f : S2 → M2 Sv} {s s1 : S2} {sv : Sv} (h : f s = .ok sv s1) : fz2 f s = .ok sv.arg s1 := by
  unfold fz2
  rw [h]
  rfl
theorem fld2N {x n : Str} {i k : Nat} {f : S2 → M2 Sv} {s s1 : S2} {sv : Sv} {c : Cell} (h : f s = .ok sv s1) (h1 : s1.ρ[i]? = some (some (.ref k))) (h2 : s1.C[k]? = some c) (h3 : c.cls = x) (h4 : c.fs.length < 1000) : o2Fld x i n f s = .nx ⟨s1.ρ, setC s1.C k c n sv⟩ := by
  unfold o2Fld
  rw [h, oOf2_ok, h1]
  simp only [h2]
  rw [if_pos ⟨h3, h4⟩]
theorem fnE {n m : Nat} {o : S2 → O2} {svs : List Sv} {C : Store} {sv : Sv} {s : S2} (h : svs.length = n) (k : o ⟨svs.map some ++ List.replicate (m - n) none, C⟩ = .rt sv s) : fn2 n m o svs C = .ok sv s.C := by
  unfold fn2
  rw [if_pos h, k]
theorem fnE0 {n m : Nat} {o : S2 → O2} {svs : List Sv} {C : Store} {s : S2} (h : svs.length = n) (k : o ⟨svs.map some ++ List.replicate (m - n) none, C⟩ = .nx s) : fn2 n m o svs C = .ok (.dat .none) s.C := by
  unfold fn2
  rw [if_pos h, k]
/-- a loop over the store, by what holds after a prefix -/
theorem o2For_pre {α : Type} {bd : PyData → Rho → Option Rho} {body : S2 → O2} {e : α → PyData} (P : List α → S2 → Prop) (ls : List α) (s : S2) (h0 : P [] s)
    (st : ∀ pre a post s, ls = pre ++ a :: post → P pre s → ∃ ρ1 s2, bd (e a) s.ρ = some ρ1 ∧ (body ⟨ρ1, s.C⟩ = .nx s2 ∨ body ⟨ρ1, s.C⟩ = .ct s2) ∧ P (pre ++ [a]) s2) : ∃ s', o2For bd body (ls.map e) s = .nx s' ∧ P ls s' := by
  suffices H : ∀ (post pre : List α) (s : S2), ls = pre ++ post → P pre s → ∃ s', o2For bd body (post.map e) s = .nx s' ∧ P ls s' from H ls [] s rfl h0
  intro post
  induction post with
  | nil => exact fun pre s hl hp => ⟨s, rfl, by rw [hl, List.append_nil]; exact hp⟩
  | cons a post ih =>
    intro pre s hl hp
    obtain ⟨ρ1, s2, k1, k2, k3⟩ := st pre a post s hl hp
    obtain ⟨s', j1, j2⟩ := ih (pre ++ [a]) s2 (by rw [hl]; simp) k3
    refine ⟨s', ?_, j2⟩
    rw [List.map_cons]
    unfold o2For
    rw [k1]
    rcases k2 with k2 | k2 <;> simp only [k2] <;> exact j1
theorem okD_nats (l : List Nat) : okDA false (l.map nD) = true := by
  induction l with
  | nil => rfl
  | cons a l ih =>
    rw [List.map_cons, okDA, ih]
    rfl
theorem okDA_all {b : Bool} {xs : List PyData} (h : ∀ x ∈ xs, okD b x = true) : okDA b xs = true := by
  induction xs with
  | nil => rfl
  | cons x xs ih =>
    rw [okDA, h x (List.mem_cons_self ..), ih fun y hy => h y (List.mem_cons_of_mem _ hy)]
    rfl
theorem okD_smD (m : Sm) : okD false (smD m) = true := by
  have h1 : okDA false (m.ps.map npD) = true := okDA_all fun x hx => by
    obtain ⟨p, _, rfl⟩ := List.mem_map.mp hx
    rfl
  have h2 := okD_nats m.md
  simp only [okD, okDA, h1, h2, Bool.not_false, Bool.and_true, Bool.true_and]
/-- a sum as it comes -/
def newS (ps : List (Nat × Nat)) (b k : Nat) : Sm := ⟨ps.mergeSort leP, b, [k]⟩
theorem newS_ok {N M : Nat} {ps : List (Nat × Nat)} {b k : Nat} (nd : ps.Nodup) (hp : ∀ p ∈ ps, p.1 < N ∧ p.2 < N) (hb : b < 2) (hk : k < M) : OkS N M (newS ps b k) := by
  refine ⟨?_, fun p h => hp p (List.mem_mergeSort.mp h), hb, List.pairwise_singleton _ _, fun x hx => ?_⟩
  · have n : (ps.mergeSort leP).Nodup := (List.mergeSort_perm _ _).nodup_iff.mpr nd
    have s : (ps.mergeSort leP).Pairwise fun a b => leP a b = true := List.pairwise_mergeSort leP_trans leP_total _
    exact List.Pairwise.imp₂ (fun a b h1 h2 => ⟨h1, h2⟩) s n
  · have : x = k := by simpa [newS] using hx
    omega
abbrev suC (K : List Sm) : Cell := ⟨"Sums", [("kept", .dat (.list (K.map smD)))]⟩
def optD : Option (List Nat) → PyData
  | some l => .list (l.map nD)
  | none => .none
theorem ne_kl : ¬ ("kept" : Str) = "lessened" := by decide +kernel
theorem resS_su {C : Store} {n k : Nat} {K : List Sm} (h : C[n]? = some (suC K)) : resS false C (k + 1) (.ref n) = some (suD K) := by
  unfold resS
  simp only [h]
  simp only [resF, resS, Option.bind_some]
theorem resS_dat {b : Bool} {C : Store} {k : Nat} {d : PyData} : resS b C k (.dat d) = some d := by cases k <;> rfl
theorem take_spec (N M : Nat) (hN : N ≤ 100) (hM : M ≤ 200000) (K : List Sm) (hK : Red N M K) (hl : K.length ≤ 200000) (ps : List (Nat × Nat)) (b k : Nat) (hr : OkS N M (newS ps b k)) (C : Store) (n : Nat) (hC : C[n]? = some (suC K)) :
    f2_Sums_take [.ref n, .dat (.list (ps.map npD)), .dat (.int b), .dat (.int k)] C = .ok (.dat (optD (takeR K (newS ps b k)))) (C.set n (suC (takeK K (newS ps b k)))) := by
  have e1 := lessened_spec N M hN hM K (newS ps b k) hK.ok hr
  have e2 := sorted_npD ps
  have om := OkS.lessen K (fun m hm => (hK.ok m hm).1) hr
  have i0 : ∀ x : Sm, gIx (smD x) (.int 0) = .ok (.dat (.list (x.ps.map npD))) := fun x => gIx_t rfl
  have i1 : ∀ x : Sm, gIx (smD x) (.int 1) = .ok (.dat (.int x.b)) := fun x => gIx_t rfl
  have i2 : ∀ x : Sm, gIx (smD x) (.int 2) = .ok (.dat (.list (x.md.map nD))) := fun x => gIx_t rfl
  have fk := fld_kept (.list (K.map smD))
  have hin : insOf "Sums" "lessened" (suD K) = true := by
    unfold insOf getF isF
    simp [ne_kl]
  have hNN : N * N ≤ 10000 := Nat.le_trans (Nat.mul_le_mul hN hN) (by decide)
  have pe : ∀ (d1 d2 d3 : PyData), pubEnv false ⟨[some (.ref n), some (.dat d1), some (.dat d2), some (.dat d3), none, none, none, none], C⟩ = [some (.dat (suD K)), some (.dat d1), some (.dat d2), some (.dat d3), none, none, none, none] := by
    intro d1 d2 d3
    have hs : resS false C 4 (.ref n) = _ := resS_su hC
    simp only [pubEnv, resO, List.map_cons, List.map_nil, Option.bind_some, Option.bind_none, hs, Option.map_some, resS_dat]
  have C0 : C.set n (suC K) = C := by
    refine List.ext_getElem? fun j => ?_
    by_cases z : n = j
    · subst z
      rw [List.getElem?_set_self (List.getElem?_eq_some_iff.mp hC).1, hC]
    · rw [List.getElem?_set_ne z]
  have n1 : newS ps b k = ⟨ps.mergeSort leP, b, [k]⟩ := rfl
  unfold takeK takeR
  have fr := lessen_free (r := newS ps b k) (fun m hm => (hK.ok m hm).2) hK.pw
  generalize hm : lessen K (newS ps b k) = m at *
  rw [n1] at e1
  unfold f2_Sums_take o2_Sums_take
  have key : ∀ {sv : Sv} {s : S2} {r : F2} {o : S2 → O2}, o ⟨[some (.ref n), some (.dat (.list (ps.map npD))), some (.dat (.int b)), some (.dat (.int k)), some (.dat (smD m)), none, none, none], C⟩ = .rt sv s → F2.ok sv s.C = r →
      fn2 4 8 (o2Seq (o2Set 4 (pub false (eMeth "Sums" "lessened" f_Sums_lessened (eVar 0) (aCons (eTup (aCons (eCall gSorted (aCons (eVar 1) aNil)) (aCons (eVar 2) (aCons (eLst (aCons (eVar 3) aNil)) aNil)))) aNil)))) o) [.ref n, .dat (.list (ps.map npD)), .dat (.int b), .dat (.int k)] C = r := by
    intro sv s r o h1 h2
    rw [← h2]
    refine fnE rfl (seq2N (set2N (pubE (sl := .dat (smD m)) ?_ (okD_smD m))) h1)
    have := pe (.list (ps.map npD)) (.int b) (.int k)
    show eMeth _ _ _ _ _ (pubEnv false ⟨[some (.ref n), some (.dat (.list (ps.map npD))), some (.dat (.int b)), some (.dat (.int k)), none, none, none, none], C⟩) = _
    rw [this]
    unfold eMeth
    simp only [eVar, List.getElem?_cons_zero, List.getElem?_cons_succ, bindN_ok, Sl.d_dat, hin, if_true, aCons, aNil, eTup, eCall, e2, Sl.d_own, eLst, List.length_cons, List.length_nil, big, Nat.reduceAdd, Nat.reduceLeDiff, decide_true]
    exact e1
  have hb := om.len
  have hz : ∀ (x : Nat × Nat) , True := fun _ => trivial
  by_cases hp : m.ps = []
  · have t1 : gEq (.int (m.ps.length : Int)) (.int 0) = retB true := by rw [hp]; rfl
    rw [if_pos hp]
    simp only [hp, true_and]
    rw [C0]
    by_cases hb1 : m.b = 1
    · have t2 : gEq (.int (m.b : Int)) (.int 1) = retB true := by rw [hb1]; rfl
      rw [if_pos hb1]
      refine key (s := ⟨[some (.ref n), some (.dat (.list (ps.map npD))), some (.dat (.int b)), some (.dat (.int k)), some (.dat (smD m)), none, none, none], C⟩) (seq2R (if2_t (liftTE ?_) (seq2R (if2_t (liftTE ?_) (ret2N (liftE (sl := .dat (.list (m.md.map nD))) ?_)))))) rfl
      · clear hp
        simp only [hide, hideS, List.map_cons, List.map_nil, tOf, eOp, eCall, aCons, aNil, eVar, eC, List.getElem?_cons_zero, List.getElem?_cons_succ, bindN_ok, Sl.d_dat, i0, gLen_l, retI, List.length_map, t1, retB, isB]
      · simp only [hide, hideS, List.map_cons, List.map_nil, tOf, eOp, eCall, aCons, aNil, eVar, eC, List.getElem?_cons_zero, List.getElem?_cons_succ, bindN_ok, Sl.d_dat, i1, t2, retB, isB]
      · simp only [hide, hideS, List.map_cons, List.map_nil, eOp, eVar, eC, List.getElem?_cons_zero, List.getElem?_cons_succ, bindN_ok, Sl.d_dat, i2]
    · have t2 : gEq (.int (m.b : Int)) (.int 1) = retB false := by
        have := om.b
        rw [show m.b = 0 by omega]
        rfl
      rw [if_neg hb1]
      refine key (s := ⟨[some (.ref n), some (.dat (.list (ps.map npD))), some (.dat (.int b)), some (.dat (.int k)), some (.dat (smD m)), none, none, none], C⟩) (seq2R (if2_t (liftTE ?_) (seq2N (if2_f (liftTE ?_) rfl) (ret2N (liftE (sl := .dat .none) rfl))))) rfl
      · clear hp
        simp only [hide, hideS, List.map_cons, List.map_nil, tOf, eOp, eCall, aCons, aNil, eVar, eC, List.getElem?_cons_zero, List.getElem?_cons_succ, bindN_ok, Sl.d_dat, i0, gLen_l, retI, List.length_map, t1, retB, isB]
      · simp only [hide, hideS, List.map_cons, List.map_nil, tOf, eOp, eCall, aCons, aNil, eVar, eC, List.getElem?_cons_zero, List.getElem?_cons_succ, bindN_ok, Sl.d_dat, i1, t2, retB, isB]
  · have t1 : gEq (.int (m.ps.length : Int)) (.int 0) = retB false := by
      have : m.ps.length ≠ 0 := fun z => hp (List.length_eq_zero_iff.mp z)
      rw [gEq_ii]
      exact congrArg retB (decide_eq_false (by omega))
    rw [if_neg hp, if_neg (fun z => hp z.1)]
    have i3 : gIx (.list (m.ps.map npD)) (.int (-1)) = .ok (.dat (npD (lst m))) := last_ix npD m.ps (0, 0) hp
    have e4 : gNeg (.int 1) = .ok (.dat (.int (-1))) := rfl
    have loop := o2For_pre (bd := b2N 7) (body := (o2Seq (o2If (liftT (tOf (eOp gIn (eVar 5) (eOp gIx (eVar 7) (eC (.int 0)))))) (o2Set 7 (lift (eCall f_summed (aCons (eVar 7) (aCons (eVar 4) aNil))))) o2Nx)
    (o2Exp (mutS2 6 gAppend (cons1 (fun s => (eVar 7) (hide s.ρ)) nil1))))) (e := smD)
      (fun pre s => ∃ x7, s = ⟨[some (.ref n), some (.dat (.list (ps.map npD))), some (.dat (.int b)), some (.dat (.int k)), some (.dat (smD m)), some (.dat (npD (lst m))), some (.own (.list ((pre.map (freed m)).map smD))), x7], C⟩)
      K ⟨[some (.ref n), some (.dat (.list (ps.map npD))), some (.dat (.int b)), some (.dat (.int k)), some (.dat (smD m)), some (.dat (npD (lst m))), some (.own (.list [])), none], C⟩ ⟨none, rfl⟩ ?_
    · obtain ⟨s', l1, x7, rfl⟩ := loop
      have b3 := gAdd_ll (a := (K.map (freed m)).map smD) (b := [smD m]) (by rw [List.length_map, List.length_map]; simp; omega)
      have b4 : (K.map (freed m)).map smD ++ [smD m] = (K.map (freed m) ++ [m]).map smD := by rw [List.map_append]; rfl
      rw [b4] at b3
      refine key (s := ⟨[some (.ref n), some (.dat (.list (ps.map npD))), some (.dat (.int b)), some (.dat (.int k)), some (.dat (smD m)), some (.dat (npD (lst m))), some (.dat (.list ((K.map (freed m)).map smD))), x7], C.set n (suC (K.map (freed m) ++ [m]))⟩) (seq2N (if2_f (liftTE ?_) rfl) (seq2N (set2N (liftE (sl := .dat (npD (lst m))) ?_)) (seq2N (set2N (liftE (sl := .own (.list [])) rfl)) (seq2N (s' := ⟨[some (.ref n), some (.dat (.list (ps.map npD))), some (.dat (.int b)), some (.dat (.int k)), some (.dat (smD m)), some (.dat (npD (lst m))), some (.own (.list ((K.map (freed m)).map smD))), x7], C⟩) ?_ (seq2N (s' := ⟨[some (.ref n), some (.dat (.list (ps.map npD))), some (.dat (.int b)), some (.dat (.int k)), some (.dat (smD m)), some (.dat (npD (lst m))), some (.dat (.list ((K.map (freed m)).map smD))), x7], C.set n (suC (K.map (freed m) ++ [m]))⟩) ?_ (ret2N (liftE (sl := .dat .none) rfl))))))) rfl
      · clear hp
        simp only [hide, hideS, List.map_cons, List.map_nil, tOf, eOp, eCall, aCons, aNil, eVar, eC, List.getElem?_cons_zero, List.getElem?_cons_succ, bindN_ok, Sl.d_dat, i0, gLen_l, retI, List.length_map, t1, retB, isB]
      · simp only [hide, hideS, List.map_cons, List.map_nil, eOp, eUn, eVar, eC, List.getElem?_cons_zero, List.getElem?_cons_succ, bindN_ok, Sl.d_dat, i0, e4, i3]
      · refine Eq.trans ?_ l1
        show o2ForE (iOf2 (pub false (eUn (gFld "Sums" "kept") (eVar 0)))) _ _ ⟨[some (.ref n), some (.dat (.list (ps.map npD))), some (.dat (.int b)), some (.dat (.int k)), some (.dat (smD m)), some (.dat (npD (lst m))), some (.own (.list [])), none], C⟩ = _
        have hs : resS false C 4 (.ref n) = _ := resS_su hC
        have hpub : pub false (eUn (gFld "Sums" "kept") (eVar 0)) ⟨[some (.ref n), some (.dat (.list (ps.map npD))), some (.dat (.int b)), some (.dat (.int k)), some (.dat (smD m)), some (.dat (npD (lst m))), some (.own (.list [])), none], C⟩ = .ok (.dat (.list (K.map smD))) ⟨[some (.ref n), some (.dat (.list (ps.map npD))), some (.dat (.int b)), some (.dat (.int k)), some (.dat (smD m)), some (.dat (npD (lst m))), some (.own (.list [])), none], C⟩ := by
          refine pubE (sl := .dat (.list (K.map smD))) ?_ ?_
          · simp only [pubEnv, resO, List.map_cons, List.map_nil, Option.bind_some, Option.bind_none, hs, Option.map_some, resS_dat, eUn, eVar, List.getElem?_cons_zero, bindN_ok, Sl.d_dat]
            exact fk
          · show okD false (.list (K.map smD)) = true
            rw [okD, okDA_all (fun x hx => by
              obtain ⟨y, _, rfl⟩ := List.mem_map.mp hx
              exact okD_smD y)]
            rfl
        unfold o2ForE iOf2
        rw [hpub]
        rfl
      · refine (show o2Fld "Sums" 0 "kept" (fz2 (lift (eOp gAdd (eVar 6) (eLst (aCons (eVar 4) aNil))))) ⟨[some (.ref n), some (.dat (.list (ps.map npD))), some (.dat (.int b)), some (.dat (.int k)), some (.dat (smD m)), some (.dat (npD (lst m))), some (.dat (.list ((K.map (freed m)).map smD))), x7], C⟩ = _ from fld2N (fz2E (liftE (sl := .own (.list ((K.map (freed m) ++ [m]).map smD))) ?_)) rfl hC rfl (Nat.succ_lt_succ (Nat.zero_lt_succ 998))).trans ?_
        · simp only [hide, hideS, List.map_cons, List.map_nil, eOp, eUn, eVar, eC, eLst, aCons, aNil, List.getElem?_cons_zero, List.getElem?_cons_succ, bindN_ok, Sl.d_dat, Sl.d_own, List.length_cons, List.length_nil, big, Nat.reduceAdd, Nat.reduceLeDiff, decide_true, if_true]
          exact b3
        · simp only [setC, putS, if_true]
          rfl
    · rintro pre a post s hk ⟨x7, rfl⟩
      have ha := hK.ok a (by rw [hk]; simp)
      have b1 := ha.1.len
      have e5 := summed_spec a m (by omega) (by omega)
      have e6 := gIn_dn npD 1 dn_npD (by decide) npD_inj (lst m) a.ps
      have hlen : pre.length + 1 ≤ 16777216 := by
        have : K.length = pre.length + (post.length + 1) := by rw [hk]; simp
        omega
      have fin : ∀ s0 : S2, s0 = ⟨[some (.ref n), some (.dat (.list (ps.map npD))), some (.dat (.int b)), some (.dat (.int k)), some (.dat (smD m)), some (.dat (npD (lst m))), some (.own (.list ((pre.map (freed m)).map smD))), some (.dat (smD (freed m a)))], C⟩ →
          (o2Exp (mutS2 6 gAppend (cons1 (fun s => (eVar 7) (hide s.ρ)) nil1))) s0 = .nx ⟨[some (.ref n), some (.dat (.list (ps.map npD))), some (.dat (.int b)), some (.dat (.int k)), some (.dat (smD m)), some (.dat (npD (lst m))), some (.own (.list (((pre ++ [a]).map (freed m)).map smD))), some (.dat (smD (freed m a)))], C⟩ := by
        rintro _ rfl
        have : gAppend ((pre.map (freed m)).map smD) [smD (freed m a)] = some ((pre.map (freed m)).map smD ++ [smD (freed m a)], .none) := by
          unfold gAppend
          exact if_pos (by rw [List.length_map, List.length_map]; exact decide_eq_true hlen)
        simp only [o2Exp, mutS2, cons1, nil1, hide, hideS, List.map_cons, List.map_nil, eVar, List.getElem?_cons_zero, List.getElem?_cons_succ, bindN_ok, Sl.d_dat, this, oOf2_ok, List.set_cons_succ, List.set_cons_zero]
        simp only [List.map_append, List.map_cons, List.map_nil]
      refine ⟨_, _, rfl, .inl (seq2N (s' := ⟨[some (.ref n), some (.dat (.list (ps.map npD))), some (.dat (.int b)), some (.dat (.int k)), some (.dat (smD m)), some (.dat (npD (lst m))), some (.own (.list ((pre.map (freed m)).map smD))), some (.dat (smD (freed m a)))], C⟩) ?_ (fin _ rfl)), _, rfl⟩
      have ht : tOf (eOp gIn (eVar 5) (eOp gIx (eVar 7) (eC (.int 0)))) (hide [some (.ref n), some (.dat (.list (ps.map npD))), some (.dat (.int b)), some (.dat (.int k)), some (.dat (smD m)), some (.dat (npD (lst m))), some (.own (.list ((pre.map (freed m)).map smD))), some (.dat (smD a))]) = .ok (decide (lst m ∈ a.ps)) := by
        simp only [hide, hideS, List.map_cons, List.map_nil, tOf, eOp, eCall, aCons, aNil, eVar, eC, List.getElem?_cons_zero, List.getElem?_cons_succ, bindN_ok, Sl.d_dat, i0, e6, retB, isB]
        exact congrArg Dl.M.ok (decide_eq_decide.mpr Iff.rfl)
      by_cases hin2 : lst m ∈ a.ps
      · rw [decide_eq_true hin2] at ht
        refine if2_t (liftTE ht) ?_
        refine (set2N (liftE (sl := .dat (smD (addS a m))) ?_)).trans ?_
        · simp only [hide, hideS, List.map_cons, List.map_nil, eCall, aCons, aNil, eVar, List.getElem?_cons_zero, List.getElem?_cons_succ, bindN_ok, Sl.d_dat]
          exact e5
        · unfold freed
          rw [if_pos hin2]
          rfl
      · rw [decide_eq_false hin2] at ht
        refine if2_f (liftTE ht) ?_
        unfold freed
        rw [if_neg hin2]
        rfl
end Dl
/-! mixed_at, pairs_of, shown_by, live_pairs. -/
namespace Dl
open PySem PySem.Spec PyProof.Rows L2
def mixL (r : List Int) : List Nat := (List.range r.length).filter fun i => decide (r.getD i 0 = 2)
theorem enumD_row (r : List Int) : enumD (r.map PyData.int) = (List.range r.length).map fun i => PyData.tuple [nD i, .int (r.getD i 0)] := by
  unfold enumD
  refine List.ext_getElem (by simp) fun i h1 h2 => ?_
  simp at h1
  simp [List.getD_eq_getElem?_getD, h1]
theorem mixed_spec (r : List Int) (hl : r.length ≤ 1000000) : f_mixed_at [rowD r] = .ok (.own (.list ((mixL r).map nD))) := by
  have f := lcF_gen (bd := bTup 2 (bCons (bN 1) (bCons (bN 2) bNil))) (tt := tOf (eOp gEq (eVar 2) (eC (.int 2)))) (fe := eVar 1) (ρ := [some (.dat (rowD r)), none, none]) (e := fun i => PyData.tuple [nD i, .int (r.getD i 0)]) (fun i => decide (r.getD i 0 = 2)) nD (List.range r.length) fun i hi => by
    exact ⟨_, by walk_at "ev"; rfl, by walk_at "evs", fun _ => ⟨.dat (nD i), by walk_at "evs", rfl⟩⟩
  have b1 := List.length_filter_le (fun i => decide (r.getD i 0 = 2)) (List.range r.length)
  have b2 : ((List.range r.length).filter fun i => decide (r.getD i 0 = 2)).length ≤ 16777216 := by
    rw [List.length_range] at b1
    omega
  have h3 := enumD_row r
  unfold f_mixed_at o_mixed_at
  refine fnO_rt rfl ?_
  clear b1
  walk_at "ev"
  rw [h3, f]
  walk_at "evs"
  rfl
def pairsG (l : List Nat) : List (Nat × Nat) := (List.range l.length).flatMap fun k => (l.drop (k + 1)).map fun j => (l.getD k 0, j)
theorem pairsG_range (n : Nat) : pairsG (List.range n) = pairsL n := by
  unfold pairsG pairsL
  rw [List.length_range]
  rw [List.flatMap_def, List.flatMap_def]
  refine congrArg List.flatten (List.map_congr_left fun k hk => ?_)
  have hk : k < n := List.mem_range.mp hk
  rw [show (List.range n).getD k 0 = k by simp [List.getD_eq_getElem?_getD, hk]]
theorem enumD_nats (l : List Nat) : enumD (l.map nD) = (List.range l.length).map fun i => npD (i, l.getD i 0) := by
  unfold enumD
  refine List.ext_getElem (by simp) fun i h1 h2 => ?_
  simp at h1
  simp [List.getD_eq_getElem?_getD, h1]
theorem pairs_ofG (l : List Nat) (hn : l.length ≤ 1000) : f_pairs_of [.list (l.map nD)] = .ok (.own (.list ((pairsG l).map npD))) := by
  obtain ⟨ρ', k1, acc, x2, x3, x4, h1, h2, rfl⟩ := oFor_pre (bd := bTup 2 (bCons (bN 2) (bCons (bN 3) bNil))) (body := oForE (iOf (eSl (eVar 0) (sSome (eOp gAdd (eVar 2) (eC (.int 1)))) sNone)) (bN 4) (oMutS (mMut 1 gAppend (aCons (eTup (aCons (eVar 3) (aCons (eVar 4) aNil))) aNil)))) (e := fun i => npD (i, l.getD i 0))
    (fun pre ρ => ∃ (acc : List (Nat × Nat)) (x2 x3 x4 : Option Sl), acc = pre.flatMap (fun k => (l.drop (k + 1)).map fun j => (l.getD k 0, j)) ∧ acc.length ≤ pre.length * 1000 ∧ ρ = [some (.dat (.list (l.map nD))), some (.own (.list (acc.map npD))), x2, x3, x4]) (List.range l.length)
    [some (.dat (.list (l.map nD))), some (.own (.list [])), none, none, none] ⟨[], _, _, _, rfl, by simp, rfl⟩ fun pre k post ρ hl hp => by
      obtain ⟨acc, x2, x3, x4, h1, h2, rfl⟩ := hp
      have hk : k < l.length := List.mem_range.mp (by rw [hl]; simp)
      have hpl : pre.length + 1 ≤ l.length := by
        have := congrArg List.length hl
        simp at this
        omega
      have hdl : (l.drop (k + 1)).length ≤ l.length := by simp
      generalize hx : l.getD k 0 = x
      obtain ⟨ρ', k1, x4', rfl⟩ := oFor_pre (bd := bN 4) (body := oMutS (mMut 1 gAppend (aCons (eTup (aCons (eVar 3) (aCons (eVar 4) aNil))) aNil))) (e := nD)
        (fun pre' ρ => ∃ x4, ρ = [some (.dat (.list (l.map nD))), some (.own (.list ((acc ++ pre'.map fun j => (x, j)).map npD))), some (.dat (nD k)), some (.dat (nD x)), x4]) (l.drop (k + 1))
        [some (.dat (.list (l.map nD))), some (.own (.list (acc.map npD))), some (.dat (nD k)), some (.dat (nD x)), x4] ⟨x4, by simp⟩ fun pre' j post' ρ hl' hp' => by
          obtain ⟨x4, rfl⟩ := hp'
          have hb : ((acc ++ pre'.map fun j => (x, j)).map npD).length + 1 ≤ 16777216 := by
            have h3 := congrArg List.length hl'
            rw [List.length_append, List.length_cons] at h3
            simp only [List.length_map, List.length_append]
            have : pre.length * 1000 ≤ 1000 * 1000 := Nat.mul_le_mul_right _ (by omega)
            omega
          refine ⟨_, [some (.dat (.list (l.map nD))), some (.own (.list ((acc ++ (pre' ++ [j]).map fun j => (x, j)).map npD))), some (.dat (nD k)), some (.dat (nD x)), some (.dat (nD j))], rfl, .inl ?_, some (.dat (nD j)), rfl⟩
          rw [List.map_append (f := fun j => (x, j)), ← List.append_assoc]
          generalize (acc ++ pre'.map fun j => (x, j)) = A at hb
          rw [List.length_map] at hb
          clear hl hl' h1 h2 hk hpl hdl hn
          walk_at "evs"
          simp only [List.map_append, List.map_cons, List.map_nil]
      refine ⟨_, [some (.dat (.list (l.map nD))), some (.own (.list ((acc ++ (l.drop (k + 1)).map fun j => (x, j)).map npD))), some (.dat (nD k)), some (.dat (nD x)), x4'], by walk_at "ev"; rfl, .inl ?_, acc ++ (l.drop (k + 1)).map (fun j => (x, j)), some (.dat (nD k)), some (.dat (nD x)), x4', by rw [h1, List.flatMap_append]; simp only [List.flatMap_cons, List.flatMap_nil, List.append_nil, hx], ?_, rfl⟩
      · refine forN ?_ k1
        have s2 := cut_from (l := l.map nD) (i := (k : Int) + 1) (by omega) (by simp; omega)
        rw [show ((k : Int) + 1).toNat = k + 1 by omega] at s2
        clear k1 hl h1 h2 hpl hdl hx
        walk_at "evs"
        rw [List.map_drop]
      · rw [List.length_append, List.length_map, List.length_append, List.length_singleton]
        omega
  have h3 := enumD_nats l
  unfold f_pairs_of o_pairs_of
  refine fnO_rt rfl ?_
  refine seqN (by walk_at "ev"; rfl) ?_
  refine seqN (forN (by walk_at "evs") k1) ?_
  rw [h1]
  walk_at "ev"
  rfl
abbrev fkD (f : Str × List Int) : PyData := .tuple [.str f.1, rowD f.2]
def mixR (r : List Int) : Prop := ∀ x ∈ r, 0 ≤ x ∧ x ≤ 2
def showL (r : List Int) (i j : Nat) : List (Int × Int) := showsL (r.getD i 0) (r.getD j 0)
def sayL (fk : List (Str × List Int)) (i j : Nat) : List (Str × (Int × Int)) := fk.flatMap fun f => (showL f.2 i j).map fun p => (f.1, p)
/-- the first of the folk that shows it -/
def firstOf (l : List (Str × (Int × Int))) (p : Int × Int) : Option Str := (l.find? fun q => decide (q.2 = p)).map (·.1)
theorem firstOf_app (l : List (Str × (Int × Int))) (a : Str × (Int × Int)) (p : Int × Int) : firstOf (l ++ [a]) p = match firstOf l p with
    | some x => some x
    | none => if a.2 = p then some a.1 else none := by
  unfold firstOf
  rw [List.find?_append]
  cases h : l.find? fun q => decide (q.2 = p) with
  | some q => rfl
  | none =>
    simp only [Option.map_none, Option.none_or, List.find?_cons, List.find?_nil]
    by_cases z : a.2 = p
    · simp [z]
    · simp [z]
theorem any_getE (es : List (PyData × PyData)) (ks : List Key) : es.any (isK ks) = (getE es ks).isSome := by
  unfold getE
  rw [Option.isSome_map, Bool.eq_iff_iff, List.find?_isSome, List.any_eq_true]
theorem getE_app (es : List (PyData × PyData)) (p : Int × Int) (d : PyData) (x y : Int) : getE (es ++ [(ipD p, d)]) (kk x y) = match getE es (kk x y) with
    | some v => some v
    | none => if p = (x, y) then some d else none := by
  unfold getE
  rw [List.find?_append]
  cases h : es.find? (isK (kk x y)) with
  | some q => rfl
  | none =>
    have : isK (kk x y) (ipD p, d) = decide (p = (x, y)) := by
      have := isK_ent (kk p.1 p.2) (kk x y) d
      refine this.trans (decide_eq_decide.mpr ?_)
      rw [kk_inj, Prod.ext_iff]
    simp only [Option.map_none, Option.none_or, List.find?_cons, List.find?_nil, this]
    by_cases z : p = (x, y)
    · simp [z]
    · simp [z]
theorem showsL_len (x y : Int) : (showsL x y).length ≤ 2 := by
  unfold showsL ways
  by_cases hx : x = 2 <;> by_cases hy : y = 2 <;> simp [hx, hy]
theorem shown_by_spec (fk : List (Str × List Int)) (n i j : Nat) (hi : i < n) (hj : j < n) (hr : ∀ f ∈ fk, f.2.length = n ∧ mixR f.2) (hl : fk.length ≤ 100000) :
    ∃ es, f_shown_by [.list (fk.map fkD), nD i, nD j] = .ok (.own (dE es)) ∧ ∀ x y, getE es (kk x y) = (firstOf (sayL fk i j) (x, y)).map PyData.str := by
  obtain ⟨ρ', k1, es, x4, x5, x6, h1, h2, rfl⟩ := oFor_pre (bd := bTup 2 (bCons (bN 4) (bCons (bN 5) bNil))) (body := oForE (iOf (eCall f_shows (aCons (eVar 5) (aCons (eVar 1) (aCons (eVar 2) aNil))))) (bN 6) (oIf (tPub (tOf (eOp gNotInT (eVar 6) (eVar 3)))) (oPutT 3 (eVar 4) (eVar 6)) oNx)) (e := fkD)
    (fun pre ρ => ∃ (es : List (PyData × PyData)) (x4 x5 x6 : Option Sl), es.length ≤ 2 * pre.length ∧ (∀ x y, getE es (kk x y) = (firstOf (sayL pre i j) (x, y)).map PyData.str) ∧ ρ = [some (.dat (.list (fk.map fkD))), some (.dat (nD i)), some (.dat (nD j)), some (.own (dE es)), x4, x5, x6]) fk
    [some (.dat (.list (fk.map fkD))), some (.dat (nD i)), some (.dat (nD j)), some (.own dT0), none, none, none] ⟨[], _, _, _, by simp, fun x y => rfl, rfl⟩ fun pre r post ρ hl2 hp => by
      obtain ⟨es, x4, x5, x6, h1, h2, rfl⟩ := hp
      obtain ⟨hrl, hrp⟩ := hr r (by rw [hl2]; simp)
      have hpl : pre.length + 1 ≤ fk.length := by rw [hl2]; simp
      have gi := gIx_t (atI_map (xs := r.2) (k := i) (by omega) (by omega))
      have gj := gIx_t (atI_map (xs := r.2) (k := j) (by omega) (by omega))
      rw [Int.toNat_natCast] at gi gj
      have mi : 0 ≤ r.2.getD i 0 ∧ r.2.getD i 0 ≤ 2 := hrp _ (by rw [List.getD_eq_getElem?_getD, List.getElem?_eq_getElem (by omega)]; exact List.getElem_mem _)
      have mj : 0 ≤ r.2.getD j 0 ∧ r.2.getD j 0 ≤ 2 := hrp _ (by rw [List.getD_eq_getElem?_getD, List.getElem?_eq_getElem (by omega)]; exact List.getElem_mem _)
      have sh := shows_spec r.2 i j _ _ gi gj mi mj
      have hsl := showsL_len (r.2.getD i 0) (r.2.getD j 0)
      have eS : ∀ pre : List (Str × List Int), sayL (pre ++ [r]) i j = sayL pre i j ++ (showsL (r.2.getD i 0) (r.2.getD j 0)).map fun p => (r.1, p) := fun pre => by
        unfold sayL
        rw [List.flatMap_append]
        simp only [List.flatMap_cons, List.flatMap_nil, List.append_nil, showL]
      generalize hS : showsL (r.2.getD i 0) (r.2.getD j 0) = S at sh hsl eS
      obtain ⟨ρ', k1, es', x6', q1, q2, rfl⟩ := oFor_pre (bd := bN 6) (body := oIf (tPub (tOf (eOp gNotInT (eVar 6) (eVar 3)))) (oPutT 3 (eVar 4) (eVar 6)) oNx) (e := ipD)
        (fun pre' ρ => ∃ (es' : List (PyData × PyData)) (x6 : Option Sl), es'.length ≤ es.length + pre'.length ∧ (∀ x y, getE es' (kk x y) = (firstOf (sayL pre i j ++ pre'.map fun p => (r.1, p)) (x, y)).map PyData.str) ∧ ρ = [some (.dat (.list (fk.map fkD))), some (.dat (nD i)), some (.dat (nD j)), some (.own (dE es')), some (.dat (.str r.1)), some (.dat (rowD r.2)), x6]) S
        [some (.dat (.list (fk.map fkD))), some (.dat (nD i)), some (.dat (nD j)), some (.own (dE es)), some (.dat (.str r.1)), some (.dat (rowD r.2)), x6] ⟨es, x6, by simp, by simpa using h2, rfl⟩ fun pre' p post' ρ hl' hp' => by
          obtain ⟨es', x6, q1, q2, rfl⟩ := hp'
          have hsl' : pre'.length + 1 ≤ S.length := by rw [hl']; simp
          have hni := gNotInT_ip p es'
          have hg := any_getE es' (kk p.1 p.2)
          have hq := q2 p.1 p.2
          have hstep : ∀ x y, firstOf (sayL pre i j ++ (pre' ++ [p]).map fun p => (r.1, p)) (x, y) = match firstOf (sayL pre i j ++ pre'.map fun p => (r.1, p)) (x, y) with
              | some v => some v
              | none => if p = (x, y) then some r.1 else none := fun x y => by
            rw [List.map_append, ← List.append_assoc]
            exact firstOf_app _ (r.1, p) (x, y)
          cases hp : es'.any (isK (kk p.1 p.2)) with
          | true =>
            refine ⟨_, [some (.dat (.list (fk.map fkD))), some (.dat (nD i)), some (.dat (nD j)), some (.own (dE es')), some (.dat (.str r.1)), some (.dat (rowD r.2)), some (.dat (ipD p))], rfl, .inl ?_, es', some (.dat (ipD p)), by simp; omega, ?_, rfl⟩
            · simp only [hp, Bool.not_true] at hni
              clear hl2 hl hr h1 h2 hrl hrp hpl gi gj mi mj hl' hsl' q1 q2 hg hq hstep hp hS sh hsl eS
              refine ifN_f (by walk_at "evs") rfl
            · intro x y
              rw [q2, hstep]
              cases h : firstOf (sayL pre i j ++ pre'.map fun p => (r.1, p)) (x, y) with
              | some v => rfl
              | none =>
                by_cases z : p = (x, y)
                · subst z
                  rw [hp] at hg
                  rw [hq, h] at hg
                  cases hg
                · simp [z]
          | false =>
            have hput : putE es' (kk p.1 p.2) (.str r.1) = es' ++ [(ipD p, .str r.1)] := by
              unfold putE
              rw [hp, if_neg (by decide)]
              rfl
            have hk : keysOf (ipD p) = some (kk p.1 p.2) := rfl
            have hbg : es'.length + 1 ≤ 16777216 := by omega
            refine ⟨_, [some (.dat (.list (fk.map fkD))), some (.dat (nD i)), some (.dat (nD j)), some (.own (dE (es' ++ [(ipD p, .str r.1)]))), some (.dat (.str r.1)), some (.dat (rowD r.2)), some (.dat (ipD p))], rfl, .inl ?_, es' ++ [(ipD p, .str r.1)], some (.dat (ipD p)), by simp; omega, ?_, rfl⟩
            · simp only [hp, Bool.not_false] at hni
              clear hl2 hl hr h1 h2 hrl hrp hpl gi gj mi mj hl' hsl' q1 q2 hg hq hstep hp hS sh hsl eS
              refine ifN_t (by walk_at "evs") ?_
              simp only [oPutT]
              walk_at "evs"
            · intro x y
              rw [getE_app, q2, hstep]
              cases h : firstOf (sayL pre i j ++ pre'.map fun p => (r.1, p)) (x, y) with
              | some v => rfl
              | none =>
                by_cases z : p = (x, y)
                · simp [z]
                · simp [z]
      refine ⟨_, [some (.dat (.list (fk.map fkD))), some (.dat (nD i)), some (.dat (nD j)), some (.own (dE es')), some (.dat (.str r.1)), some (.dat (rowD r.2)), x6'], by walk_at "ev"; try rfl, .inl (forN ?_ k1), es', _, _, _, by simp; omega, fun x y => by rw [eS, q2], rfl⟩
      clear hl2 hl hr h1 h2 hrl hrp hpl gi gj mi mj q1 q2 hS hsl eS k1
      walk_at "evs"
  refine ⟨es, ?_, h2⟩
  unfold f_shown_by o_shown_by
  refine fnO_rt rfl ?_
  refine seqN (by simp only [oSet, eNewT]; walk_at "ev"; rfl) ?_
  refine seqN (forN (by walk_at "ev") k1) ?_
  walk_at "ev"
theorem has_allG (es : List (PyData × PyData)) (f : Int × Int → Option Str) (h : ∀ x y, getE es (kk x y) = (f (x, y)).map PyData.str) : f_has_all [dE es] = .ok (.dat (.bool ((f (0, 1)).isSome && ((f (1, 0)).isSome && (f (1, 1)).isSome)))) := by
  have e := has_all_spec es
  rw [any_getE, any_getE, any_getE, h, h, h, Option.isSome_map, Option.isSome_map, Option.isSome_map] at e
  exact e
theorem getT_spec (es : List (PyData × PyData)) (f : Int × Int → Option Str) (h : ∀ x y, getE es (kk x y) = (f (x, y)).map PyData.str) (p : Int × Int) (s : Str) (hs : f p = some s) : gGetT (dE es) (ipD p) = .ok (.dat (.str s)) := by
  have e := h p.1 p.2
  rw [show f (p.1, p.2) = some s from hs] at e
  show (match keysOf (ipD p) with
    | some ks => (match getE es ks with
      | some v => Dl.M.ok (Sl.dat v)
      | none => Dl.M.stuck)
    | none => Dl.M.stuck) = _
  rw [show keysOf (ipD p) = some (kk p.1 p.2) from rfl]
  simp only [e, Option.map_some]
theorem inT_spec (es : List (PyData × PyData)) (f : Int × Int → Option Str) (h : ∀ x y, getE es (kk x y) = (f (x, y)).map PyData.str) (p : Int × Int) : gInT (ipD p) (dE es) = retB (f p).isSome := by
  have e : gInT (ipD p) (dE es) = retB (es.any (isK (kk p.1 p.2))) := rfl
  rw [e, any_getE, h, Option.isSome_map]
end Dl
/-! live_pairs. -/
namespace Dl
open PySem PySem.Spec PyProof.Rows L2
theorem pairsG_cons (a : Nat) (l : List Nat) : pairsG (a :: l) = l.map (fun j => (a, j)) ++ pairsG l := by
  unfold pairsG
  rw [List.length_cons, List.range_succ_eq_map, List.flatMap_cons, List.flatMap_map]
  rfl
theorem mem_pairsG : ∀ {l : List Nat} {p : Nat × Nat}, l.Pairwise (· < ·) → (p ∈ pairsG l ↔ p.1 ∈ l ∧ p.2 ∈ l ∧ p.1 < p.2)
  | [], p, _ => by simp [pairsG]
  | a :: l, p, h => by
    rw [List.pairwise_cons] at h
    rw [pairsG_cons, List.mem_append, List.mem_map, mem_pairsG h.2]
    constructor
    · rintro (⟨j, hj, rfl⟩ | ⟨h1, h2, h3⟩)
      · exact ⟨List.mem_cons_self .., List.mem_cons_of_mem _ hj, h.1 j hj⟩
      · exact ⟨List.mem_cons_of_mem _ h1, List.mem_cons_of_mem _ h2, h3⟩
    · rintro ⟨h1, h2, h3⟩
      rcases List.mem_cons.mp h1 with h1 | h1
      · rcases List.mem_cons.mp h2 with h2 | h2
        · omega
        · exact .inl ⟨p.2, h2, by rw [← h1]⟩
      · rcases List.mem_cons.mp h2 with h2 | h2
        · have := h.1 _ h1
          omega
        · exact .inr ⟨h1, h2, h3⟩
theorem sorted_pairsG : ∀ {l : List Nat}, l.Pairwise (· < ·) → (pairsG l).Pairwise fun p q => leP p q = true ∧ p ≠ q
  | [], _ => by simp [pairsG]
  | a :: l, h => by
    rw [List.pairwise_cons] at h
    rw [pairsG_cons, List.pairwise_append, List.pairwise_map]
    refine ⟨h.2.imp fun {x y} hxy => ⟨?g1, fun e => ?g2⟩, sorted_pairsG h.2, ?g3⟩
    case g1 =>
      unfold leP
      rw [decide_eq_true_eq]
      exact .inr ⟨rfl, Nat.le_of_lt hxy⟩
    case g2 =>
      injection e with e1 e2
      omega
    case g3 =>
      intro p hp q hq
      obtain ⟨j, hj, rfl⟩ := List.mem_map.mp hp
      have := (mem_pairsG h.2).mp hq
      have := h.1 _ this.1
      refine ⟨?_, fun e => ?_⟩
      · unfold leP
        rw [decide_eq_true_eq]
        exact .inl this
      · rw [← e] at this
        exact absurd this (Nat.lt_irrefl _)
theorem mixL_up (r : List Int) : (mixL r).Pairwise (· < ·) := (List.pairwise_lt_range (n := r.length)).filter _
theorem mem_mixL {r : List Int} {i : Nat} : i ∈ mixL r ↔ i < r.length ∧ r.getD i 0 = 2 := by
  unfold mixL
  rw [List.mem_filter, List.mem_range, decide_eq_true_eq]
theorem mixL_len (r : List Int) : (mixL r).length ≤ r.length := by
  have := List.length_filter_le (fun i => decide (r.getD i 0 = 2)) (List.range r.length)
  rw [List.length_range] at this
  exact this
theorem pairsL_up (n : Nat) : (pairsL n).Pairwise fun p q => leP p q = true ∧ p ≠ q := by
  rw [← pairsG_range]
  exact sorted_pairsG List.pairwise_lt_range
theorem mem_pairsL' {n : Nat} {p : Nat × Nat} : p ∈ pairsL n ↔ p.1 < p.2 ∧ p.2 < n := by
  rw [← pairsG_range, mem_pairsG List.pairwise_lt_range, List.mem_range, List.mem_range]
  omega
/-- two are mixed there -/
def both2 (r : List Int) (p : Nat × Nat) : Bool := decide (r.getD p.1 0 = 2) && decide (r.getD p.2 0 = 2)
def liveL (rows : List (List Int)) (n : Nat) : List (Nat × Nat) := (pairsL n).filter fun p => rows.any fun r => both2 r p
theorem sorted_uniq {a b : List (Nat × Nat)} (ha : a.Pairwise fun p q => leP p q = true) (hb : b.Pairwise fun p q => leP p q = true) (h : a.Perm b) : a = b :=
  h.eq_of_pairwise (le := fun p q => leP p q = true) (fun p q _ _ h1 h2 => leP_antisymm h1 h2) ha hb
theorem any_keys (ks : List (Nat × Nat)) (p : Nat × Nat) : (ks.map fun q => (npD q, PyData.bool true)).any (isK (kk p.1 p.2)) = decide (p ∈ ks) := by
  rw [List.any_map, Bool.eq_iff_iff, List.any_eq_true, decide_eq_true_eq]
  have hk : ∀ q : Nat × Nat, isK (kk p.1 p.2) (npD q, PyData.bool true) = decide (kk q.1 q.2 = kk p.1 p.2) := fun q => isK_ent (kk q.1 q.2) (kk p.1 p.2) _
  constructor
  · rintro ⟨q, hq, h⟩
    have h : isK (kk p.1 p.2) (npD q, PyData.bool true) = true := h
    rw [hk, decide_eq_true_eq, kk_inj] at h
    have : q = p := Prod.ext (by omega) (by omega)
    rwa [← this]
  · intro h
    refine ⟨p, h, ?_⟩
    show isK (kk p.1 p.2) (npD p, PyData.bool true) = true
    rw [hk, decide_eq_true_eq]
theorem live_spec (fk : List (Str × List Int)) (n : Nat) (hn : n ≤ 1000) (hr : ∀ f ∈ fk, f.2.length = n) : f_live_pairs [.list (fk.map fkD)] = .ok (.own (.list ((liveL (fk.map (·.2)) n).map npD))) := by
  have hsz : ∀ ks : List (Nat × Nat), ks.Nodup → (∀ p ∈ ks, p ∈ pairsL n) → ks.length + 1 ≤ 16777216 := by
    intro ks nd h
    have h1 : (ks.mergeSort leP).length = ks.length := List.length_mergeSort ks
    have hs : (ks.mergeSort leP).Pairwise fun p q => leP p q = true ∧ p ≠ q :=
      List.Pairwise.imp₂ (fun a b h1 h2 => ⟨h1, h2⟩) (List.pairwise_mergeSort leP_trans leP_total _) ((List.mergeSort_perm ks leP).nodup_iff.mpr nd)
    have o : OkS n 1 ⟨ks.mergeSort leP, 0, []⟩ := ⟨hs, fun p hp => by
      have := mem_pairsL'.mp (h p (List.mem_mergeSort.mp hp))
      omega, Nat.zero_lt_succ 1, .nil, fun k hk => by cases hk⟩
    have := o.len.1
    have h3 : n * n ≤ 1000 * 1000 := Nat.mul_le_mul hn hn
    have h2 : (ks.mergeSort leP).length ≤ n * n := this
    omega
  obtain ⟨ρ', k1, ks, x2, x3, x4, h0, h1, h2, rfl⟩ := oFor_pre (bd := bTup 2 (bCons (bN 2) (bCons (bN 3) bNil))) (body := oForE (iOf (eCall f_pairs_of (aCons (eCall f_mixed_at (aCons (eVar 3) aNil)) aNil))) (bN 4) (oPutT 1 (eC (.bool true)) (eVar 4))) (e := fkD)
    (fun pre ρ => ∃ (ks : List (Nat × Nat)) (x2 x3 x4 : Option Sl), ks.Nodup ∧ (∀ p ∈ ks, p ∈ pairsL n) ∧ (∀ p, p ∈ ks ↔ p ∈ pre.flatMap fun f => pairsG (mixL f.2)) ∧ ρ = [some (.dat (.list (fk.map fkD))), some (.own (dE (ks.map fun q => (npD q, PyData.bool true)))), x2, x3, x4]) fk
    [some (.dat (.list (fk.map fkD))), some (.own dT0), none, none, none] ⟨[], none, none, none, .nil, (fun p h => by cases h), (fun p => by simp), rfl⟩ fun pre f post ρ hl hp => by
      obtain ⟨ks, x2, x3, x4, h0, h1, h2, rfl⟩ := hp
      have hrl := hr f (by rw [hl]; simp)
      have hml := mixL_len f.2
      have e1 := mixed_spec f.2 (by omega)
      have e2 := pairs_ofG (mixL f.2) (by omega)
      have hin : ∀ p ∈ pairsG (mixL f.2), p ∈ pairsL n := fun p hp => by
        obtain ⟨z1, z2, z3⟩ := (mem_pairsG (mixL_up f.2)).mp hp
        have := mem_mixL.mp z2
        exact mem_pairsL'.mpr ⟨z3, by omega⟩
      generalize hP : pairsG (mixL f.2) = P at e2 hin
      obtain ⟨ρ', k1, ks', x4', q0, q1, q2, rfl⟩ := oFor_pre (bd := bN 4) (body := oPutT 1 (eC (.bool true)) (eVar 4)) (e := npD)
        (fun pre' ρ => ∃ (ks' : List (Nat × Nat)) (x4 : Option Sl), ks'.Nodup ∧ (∀ p ∈ ks', p ∈ pairsL n) ∧ (∀ p, p ∈ ks' ↔ p ∈ ks ∨ p ∈ pre') ∧ ρ = [some (.dat (.list (fk.map fkD))), some (.own (dE (ks'.map fun q => (npD q, PyData.bool true)))), some (.dat (.str f.1)), some (.dat (rowD f.2)), x4]) P
        [some (.dat (.list (fk.map fkD))), some (.own (dE (ks.map fun q => (npD q, PyData.bool true)))), some (.dat (.str f.1)), some (.dat (rowD f.2)), x4] ⟨ks, x4, h0, h1, (fun p => by simp), rfl⟩ fun pre' p post' ρ hl' hp' => by
          obtain ⟨ks', x4, q0, q1, q2, rfl⟩ := hp'
          have hk : keysOf (npD p) = some (kk p.1 p.2) := rfl
          have hbg := hsz ks' q0 q1
          have ha := any_keys ks' p
          by_cases hm : p ∈ ks'
          · have hput : putE (ks'.map fun q => (npD q, PyData.bool true)) (kk p.1 p.2) (.bool true) = ks'.map fun q => (npD q, PyData.bool true) := by
              unfold putE
              rw [ha, decide_eq_true hm, if_pos rfl, List.map_map]
              refine List.map_congr_left fun q _ => ?_
              show (if _ then _ else _) = _
              split <;> rfl
            refine ⟨_, [some (.dat (.list (fk.map fkD))), some (.own (dE (ks'.map fun q => (npD q, PyData.bool true)))), some (.dat (.str f.1)), some (.dat (rowD f.2)), some (.dat (npD p))], rfl, .inl ?_, ks', some (.dat (npD p)), q0, q1, (fun q => by
              rw [q2, List.mem_append, List.mem_singleton]
              constructor
              · exact fun z => z.elim .inl fun z => .inr (.inl z)
              · rintro (z | z | z)
                · exact .inl z
                · exact .inr z
                · subst z
                  exact (q2 q).mp hm), rfl⟩
            clear hl hl' h0 h1 h2 q0 q1 q2 hin hP ha hm e1 e2 hsz hr hrl hml
            simp only [oPutT]
            walk_at "evs"
          · have hput : putE (ks'.map fun q => (npD q, PyData.bool true)) (kk p.1 p.2) (.bool true) = (ks' ++ [p]).map fun q => (npD q, PyData.bool true) := by
              unfold putE
              rw [ha, decide_eq_false hm, if_neg (by decide), List.map_append]
              rfl
            refine ⟨_, [some (.dat (.list (fk.map fkD))), some (.own (dE ((ks' ++ [p]).map fun q => (npD q, PyData.bool true)))), some (.dat (.str f.1)), some (.dat (rowD f.2)), some (.dat (npD p))], rfl, .inl ?_, ks' ++ [p], some (.dat (npD p)), ?_, ?_, (fun q => by
              rw [List.mem_append, q2, List.mem_append, List.mem_singleton, or_assoc]), rfl⟩
            · clear hl hl' h0 h1 h2 q0 q1 q2 hin hP ha hm e1 e2 hsz hr hrl hml
              simp only [oPutT]
              walk_at "evs"
            · rw [List.nodup_append]
              refine ⟨q0, by simp, fun a ha' b hb e => ?_⟩
              rw [List.mem_singleton] at hb
              subst hb
              subst e
              exact hm ha'
            · intro q hq
              rcases List.mem_append.mp hq with hq | hq
              · exact q1 q hq
              · rw [List.mem_singleton] at hq
                subst hq
                exact hin q (by rw [hl']; simp)
      refine ⟨_, [some (.dat (.list (fk.map fkD))), some (.own (dE (ks'.map fun q => (npD q, PyData.bool true)))), some (.dat (.str f.1)), some (.dat (rowD f.2)), x4'], by walk_at "ev"; try rfl, .inl (forN ?_ k1), ks', _, _, _, q0, q1, (fun q => by
        rw [q2, h2, List.flatMap_append, List.mem_append]
        simp only [List.flatMap_cons, List.flatMap_nil, List.append_nil, hP]), rfl⟩
      clear hl h0 h1 h2 q0 q1 q2 hin hP hsz hr hrl hml k1
      walk_at "evs"
  have hlive : ks.mergeSort leP = liveL (fk.map (·.2)) n := by
    have s1 : (ks.mergeSort leP).Pairwise fun p q => leP p q = true := List.pairwise_mergeSort leP_trans leP_total _
    have s2 : (liveL (fk.map (·.2)) n).Pairwise fun p q => leP p q = true := ((pairsL_up n).imp fun z => z.1).filter _
    have n1 : (ks.mergeSort leP).Nodup := (List.mergeSort_perm ks leP).nodup_iff.mpr h0
    have n2 : (liveL (fk.map (·.2)) n).Nodup := ((pairsL_up n).imp fun z => z.2).filter _
    refine sorted_uniq s1 s2 ((List.perm_ext_iff_of_nodup n1 n2).mpr fun p => ?_)
    rw [List.mem_mergeSort, h2]
    unfold liveL
    rw [List.mem_filter, List.mem_flatMap, List.any_map, List.any_eq_true]
    constructor
    · rintro ⟨f, hf, hp⟩
      obtain ⟨z1, z2, z3⟩ := (mem_pairsG (mixL_up f.2)).mp hp
      have z1 := mem_mixL.mp z1
      have z2 := mem_mixL.mp z2
      have := hr f hf
      refine ⟨mem_pairsL'.mpr ⟨z3, by omega⟩, f, hf, ?_⟩
      show both2 f.2 p = true
      unfold both2
      rw [Bool.and_eq_true, decide_eq_true_eq, decide_eq_true_eq]
      exact ⟨z1.2, z2.2⟩
    · rintro ⟨hp, f, hf, h⟩
      have h : both2 f.2 p = true := h
      unfold both2 at h
      rw [Bool.and_eq_true, decide_eq_true_eq, decide_eq_true_eq] at h
      have hp := mem_pairsL'.mp hp
      have := hr f hf
      exact ⟨f, hf, (mem_pairsG (mixL_up f.2)).mpr ⟨mem_mixL.mpr ⟨by omega, h.1⟩, mem_mixL.mpr ⟨by omega, h.2⟩, hp.1⟩⟩
  have hsort : gSortedT [dE (ks.map fun q => (npD q, PyData.bool true))] = .ok (.own (.list ((ks.mergeSort leP).map npD))) := by
    have e : keysE (ks.map fun q => (npD q, PyData.bool true)) = ks.map npD := by
      unfold keysE
      rw [List.map_map]
      rfl
    show (if srtOk (keysE (ks.map fun q => (npD q, PyData.bool true))) = true then Dl.M.ok (Sl.own (.list (srt (keysE (ks.map fun q => (npD q, PyData.bool true)))))) else Dl.M.stuck) = _
    rw [e, srtOk_npD, if_pos rfl, srt_map npD leP le_npD]
  rw [← hlive]
  unfold f_live_pairs o_live_pairs
  refine fnO_rt rfl ?_
  refine seqN (by simp only [oSet, eNewT]; walk_at "ev"; rfl) ?_
  refine seqN (forN (by walk_at "ev") k1) ?_
  clear k1 h0 h1 h2 hlive hr hsz
  walk_at "evs"
end Dl
/-! facts. -/
namespace Dl
open PySem PySem.Spec PyProof.Rows L2
theorem gEq_ss {a b : Str} : gEq (.str a) (.str b) = retB (decide (a = b)) := rfl
inductive Fact where
  | three (w : Str) (a b c : Nat)
  | joined (a b : Nat) (w : Str)
  | parted (a b : Nat) (w1 w2 : Str)
  | said (w : Str) (a b : Nat) (t : Bool)
def wordS (t : Bool) : Str := if t = true then "together" else "apart"
def factD : Fact → PyData
  | .three w a b c => .tuple [.str "three", .str w, nD a, nD b, nD c]
  | .joined a b w => .tuple [.str "joined", nD a, nD b, .str w]
  | .parted a b w1 w2 => .tuple [.str "parted", nD a, nD b, .str w1, .str w2]
  | .said w a b t => .tuple [.str "said", .str w, nD a, nD b, .str (wordS t)]
def sumPs : Fact → List (Nat × Nat)
  | .three _ a b c => [(a, b), (a, c), (b, c)]
  | .joined a b _ => [(a, b)]
  | .parted a b _ _ => [(a, b)]
  | .said _ a b _ => [(a, b)]
def sumB : Fact → Nat
  | .three _ _ _ _ => 0
  | .joined _ _ _ => 0
  | .parted _ _ _ _ => 1
  | .said _ _ _ t => if t = true then 0 else 1
theorem n_jt : ("joined" : Str) ≠ "three" := by decide +kernel
theorem n_pt : ("parted" : Str) ≠ "three" := by decide +kernel
theorem n_pj : ("parted" : Str) ≠ "joined" := by decide +kernel
theorem n_st : ("said" : Str) ≠ "three" := by decide +kernel
theorem n_sj : ("said" : Str) ≠ "joined" := by decide +kernel
theorem n_sp : ("said" : Str) ≠ "parted" := by decide +kernel
theorem n_at : ("apart" : Str) ≠ "together" := by decide +kernel
theorem look_word (t : Bool) : lookKd [("together", .int 0), ("apart", .int 1)] (.str (wordS t)) = .ok (some (.int (if t = true then 0 else 1))) := by
  have e1 : (("together" : Str) == ("together" : Str)) = true := by decide +kernel
  have e2 : (("apart" : Str) == ("together" : Str)) = false := by decide +kernel
  have e3 : (("apart" : Str) == ("apart" : Str)) = true := by decide +kernel
  cases t with
  | true =>
    unfold lookKd wordS
    simp only [if_true, List.lookup, e1]
    rfl
  | false =>
    unfold lookKd wordS
    simp only [Bool.false_eq_true, if_false, List.lookup, e2, e3]
    rfl
theorem sum_of_spec (f : Fact) : f_sum_of [factD f] = .ok (.dat (.tuple [.list ((sumPs f).map npD), .int (sumB f : Int)])) := by
  have i0 : ∀ a b c d e, gIx (.tuple [a, b, c, d, e]) (.int 0) = .ok (.dat a) := fun _ _ _ _ _ => gIx_t rfl
  have i1 : ∀ a b c d e, gIx (.tuple [a, b, c, d, e]) (.int 1) = .ok (.dat b) := fun _ _ _ _ _ => gIx_t rfl
  have i2 : ∀ a b c d e, gIx (.tuple [a, b, c, d, e]) (.int 2) = .ok (.dat c) := fun _ _ _ _ _ => gIx_t rfl
  have i3 : ∀ a b c d e, gIx (.tuple [a, b, c, d, e]) (.int 3) = .ok (.dat d) := fun _ _ _ _ _ => gIx_t rfl
  have i4 : ∀ a b c d e, gIx (.tuple [a, b, c, d, e]) (.int 4) = .ok (.dat e) := fun _ _ _ _ _ => gIx_t rfl
  have j0 : ∀ a b c d, gIx (.tuple [a, b, c, d]) (.int 0) = .ok (.dat a) := fun _ _ _ _ => gIx_t rfl
  have j1 : ∀ a b c d, gIx (.tuple [a, b, c, d]) (.int 1) = .ok (.dat b) := fun _ _ _ _ => gIx_t rfl
  have j2 : ∀ a b c d, gIx (.tuple [a, b, c, d]) (.int 2) = .ok (.dat c) := fun _ _ _ _ => gIx_t rfl
  unfold f_sum_of o_sum_of
  refine fnO_rt rfl ?_
  cases f with
  | three w a b c =>
    show oSeq _ _ [some (.dat (.tuple [.str "three", .str w, nD a, nD b, nD c]))] = _
    have e1 : gEq (.str "three") (.str "three") = retB true := by rw [gEq_ss, decide_eq_true rfl]
    simp only [oSeq, oIf, oRet, tOf, eOp, eVar, eC, eTup, eLst, aCons, aNil, List.getElem?_cons_zero, bindN_ok, Sl.d_dat, Sl.d_own, i0, i1, i2, i3, i4, e1, retB, isB, oOfN_ok, if_true, List.length_cons, List.length_nil, big, Nat.reduceAdd, Nat.reduceLeDiff, decide_true]
    rfl
  | joined a b w =>
    show oSeq _ _ [some (.dat (.tuple [.str "joined", nD a, nD b, .str w]))] = _
    have e1 : gEq (.str "joined") (.str "three") = retB false := by rw [gEq_ss, decide_eq_false n_jt]
    have e2 : gEq (.str "joined") (.str "joined") = retB true := by rw [gEq_ss, decide_eq_true rfl]
    simp only [oSeq, oIf, oRet, oNx, tOf, eOp, eVar, eC, eTup, eLst, aCons, aNil, List.getElem?_cons_zero, bindN_ok, Sl.d_dat, Sl.d_own, j0, j1, j2, e1, e2, retB, isB, oOfN_ok, if_true, if_false, Bool.false_eq_true, List.length_cons, List.length_nil, big, Nat.reduceAdd, Nat.reduceLeDiff, decide_true]
    rfl
  | parted a b w1 w2 =>
    show oSeq _ _ [some (.dat (.tuple [.str "parted", nD a, nD b, .str w1, .str w2]))] = _
    have e1 : gEq (.str "parted") (.str "three") = retB false := by rw [gEq_ss, decide_eq_false n_pt]
    have e2 : gEq (.str "parted") (.str "joined") = retB false := by rw [gEq_ss, decide_eq_false n_pj]
    have e3 : gEq (.str "parted") (.str "parted") = retB true := by rw [gEq_ss, decide_eq_true rfl]
    simp only [oSeq, oIf, oRet, oNx, tOf, eOp, eVar, eC, eTup, eLst, aCons, aNil, List.getElem?_cons_zero, bindN_ok, Sl.d_dat, Sl.d_own, i0, i1, i2, e1, e2, e3, retB, isB, oOfN_ok, if_true, if_false, Bool.false_eq_true, List.length_cons, List.length_nil, big, Nat.reduceAdd, Nat.reduceLeDiff, decide_true]
    rfl
  | said w a b t =>
    show oSeq _ _ [some (.dat (.tuple [.str "said", .str w, nD a, nD b, .str (wordS t)]))] = _
    have e1 : gEq (.str "said") (.str "three") = retB false := by rw [gEq_ss, decide_eq_false n_st]
    have e2 : gEq (.str "said") (.str "joined") = retB false := by rw [gEq_ss, decide_eq_false n_sj]
    have e3 : gEq (.str "said") (.str "parted") = retB false := by rw [gEq_ss, decide_eq_false n_sp]
    have e4 := look_word t
    simp only [oSeq, oIf, oRet, oNx, tOf, eOp, eVar, eC, eTup, eLst, aCons, aNil, eKdIx, List.getElem?_cons_zero, bindN_ok, Sl.d_dat, Sl.d_own, i0, i2, i3, i4, e1, e2, e3, e4, retB, isB, oOfN_ok, if_true, if_false, Bool.false_eq_true, List.length_cons, List.length_nil, big, Nat.reduceAdd, Nat.reduceLeDiff, decide_true]
    cases t <;> rfl
/-! threes -/
def threeL (f : Str × List Int) : List Fact := match mixL f.2 with
  | [] => []
  | a :: l => (pairsG l).map fun p => .three f.1 a p.1 p.2
theorem threes_spec (f : Str × List Int) (hn : f.2.length ≤ 1000) : f_threes [.str f.1, rowD f.2] = .ok (.own (.list ((threeL f).map factD))) := by
  have e1 := mixed_spec f.2 (by omega)
  have hml := mixL_len f.2
  unfold threeL
  cases hm : mixL f.2 with
  | nil =>
    rw [hm] at e1
    unfold f_threes o_threes
    refine fnO_rt rfl ?_
    clear hm hml hn
    refine seqN (by walk_at "evs"; rfl) ?_
    walk_at "evs"
  | cons a l =>
    rw [hm] at e1 hml
    rw [List.length_cons] at hml
    have e2 := pairs_ofG l (by omega)
    have c1 : cutD ((a :: l).map nD) (some 1) none = l.map nD := (cut_from (by omega) (by simp; omega)).trans rfl
    have g0 : gIx (.list ((a :: l).map nD)) (.int 0) = .ok (.dat (nD a)) := by
      refine gIx_l ?_
      unfold atI ixN
      rw [if_pos (by decide), if_pos (by rw [List.length_map, List.length_cons]; omega)]
      rfl
    have g0' : gIx (.list (nD a :: l.map nD)) (.int 0) = .ok (.dat (nD a)) := g0
    have hne : ∀ x : Nat, gEq (.int ((((a :: l).map nD).length : Nat) : Int)) (.int 0) = retB false := fun _ => by
      rw [gEq_ii]
      exact congrArg retB (decide_eq_false (by simp; omega))
    have hne := hne 0
    have ff := lcF_map (bd := bTup 2 (bCons (bN 3) (bCons (bN 4) bNil))) (fe := eTup (aCons (eC (.str "three")) (aCons (eVar 0) (aCons (eOp gIx (eVar 2) (eC (.int 0))) (aCons (eVar 3) (aCons (eVar 4) aNil)))))) (ρ := [some (.dat (.str f.1)), some (.dat (rowD f.2)), some (.dat (.list ((a :: l).map nD))), none, none]) (e := npD) (fun p => factD (.three f.1 a p.1 p.2)) (pairsG l) fun p _ => by
      refine ⟨_, by walk_at "ev"; rfl, .dat (factD (.three f.1 a p.1 p.2)), ?_, rfl⟩
      simp only [eTup, aCons, aNil, eC, eVar, eOp, List.getElem?_cons_zero, List.getElem?_cons_succ, bindN_ok, Sl.d_dat, g0, g0', List.length_cons, List.length_nil, big, Nat.reduceAdd, Nat.reduceLeDiff, decide_true, if_true, List.set_cons_zero, List.set_cons_succ]
      rfl
    have e3 : (pairsG l).length ≤ 16777216 := by
      have h : (pairsG l).length ≤ l.length * l.length := by
        unfold pairsG
        rw [List.length_flatMap]
        have : ∀ (k : List Nat), (k.map fun k => ((l.drop (k + 1)).map fun j => (l.getD k 0, j)).length).sum ≤ k.length * l.length := by
          intro k
          induction k with
          | nil => simp
          | cons x k ih =>
            simp only [List.map_cons, List.sum_cons, List.length_cons, Nat.add_mul, Nat.one_mul]
            have : ((l.drop (x + 1)).map fun j => (l.getD x 0, j)).length ≤ l.length := by simp
            omega
        have := this (List.range l.length)
        rw [List.length_range] at this
        exact this
      have : l.length * l.length ≤ 1000 * 1000 := Nat.mul_le_mul (by omega) (by omega)
      omega
    have hb1 : l.length + 1 ≤ 16777216 := by omega
    unfold f_threes o_threes
    refine fnO_rt rfl ?_
    refine seqN (ρ' := [some (.dat (.str f.1)), some (.dat (rowD f.2)), some (.own (.list ((a :: l).map nD))), none, none]) (by clear ff c1 g0 hne e2 hm hml hn; walk_at "evs") ?_
    refine seqN (ρ' := [some (.dat (.str f.1)), some (.dat (rowD f.2)), some (.dat (.list ((a :: l).map nD))), none, none]) (fixN (ifN_f (by
      simp only [fixs, Env.fix, List.getElem?_cons_zero, List.getElem?_cons_succ, fixS_own, List.set_cons_zero, List.set_cons_succ, tOf, eOp, eCall, aCons, aNil, eVar, eC, bindN_ok, Sl.d_dat, gLen_l, retI]
      rw [hne]
      rfl) rfl)) ?_
    have hit : (iOf (eCall f_pairs_of (aCons (eSl (eVar 2) (sSome (eC (.int 1))) sNone) aNil))) [some (.dat (.str f.1)), some (.dat (rowD f.2)), some (.dat (.list ((a :: l).map nD))), none, none] = .ok ((pairsG l).map npD) := by
      have c2 : gSl (.list ((a :: l).map nD)) (some 1) none = .ok (.own (.list (l.map nD))) := by
        rw [gSl_l, c1]
      simp only [iOf, eCall, aCons, aNil, eSl, eVar, sSome, sNone, eC, isI, List.getElem?_cons_zero, List.getElem?_cons_succ, bindN_ok, Sl.d_dat, Sl.d_own, c2, e2, itemsD]
    refine fixN ?_
    simp only [fixs, Env.fix, List.getElem?_cons_zero, List.getElem?_cons_succ, fixS_dat, List.set_cons_zero, List.set_cons_succ]
    simp only [oRet, eLc, hit, bindN_ok, wipeE, List.set_cons_zero, List.set_cons_succ, ff, List.length_map, big_lt e3, if_true, oOfN_ok]
    rw [List.map_map]
    rfl
end Dl
/-! forced, clash, facts_of. -/
namespace Dl
open PySem PySem.Spec PyProof.Rows L2
theorem seqR {f g : Env → O} {ρ : Env} {sl : Sl} (h : f ρ = .rt sl) : oSeq f g ρ = .rt sl := by
  unfold oSeq
  rw [h]
abbrev Folk := List (Str × List Int)
def forcedAt (fk : Folk) (p : Nat × Nat) : List Fact := match firstOf (sayL fk p.1 p.2) (1, 1) with
  | some w => [.joined p.1 p.2 w]
  | none => match firstOf (sayL fk p.1 p.2) (0, 1), firstOf (sayL fk p.1 p.2) (1, 0) with
    | some w1, some w2 => [.parted p.1 p.2 w1 w2]
    | _, _ => []
def forcedL (fk : Folk) (n : Nat) : List Fact := (liveL (fk.map (·.2)) n).flatMap (forcedAt fk)
theorem live_len (fk : Folk) (n : Nat) : (liveL (fk.map (·.2)) n).length ≤ n * n := by
  have o : OkS n 1 ⟨liveL (fk.map (·.2)) n, 0, []⟩ := ⟨(pairsL_up n).filter _, fun p hp => by
      have := mem_pairsL'.mp (List.mem_filter.mp hp).1
      omega, Nat.zero_lt_succ 1, .nil, fun k hk => by cases hk⟩
  exact o.len.1
theorem forcedAt_len (fk : Folk) (p : Nat × Nat) : (forcedAt fk p).length ≤ 1 := by
  unfold forcedAt
  split
  · exact Nat.le_refl _
  · split
    · exact Nat.le_refl _
    · exact Nat.zero_le _
theorem forced_spec (fk : Folk) (n : Nat) (hn : n ≤ 1000) (hr : ∀ f ∈ fk, f.2.length = n ∧ mixR f.2) (hl : fk.length ≤ 100000) : f_forced [.list (fk.map fkD)] = .ok (.own (.list ((forcedL fk n).map factD))) := by
  have e0 := live_spec fk n hn fun f hf => (hr f hf).1
  have hll := live_len fk n
  have hnn : n * n ≤ 1000 * 1000 := Nat.mul_le_mul hn hn
  have hmem : ∀ p ∈ liveL (fk.map (·.2)) n, p.1 < n ∧ p.2 < n := fun p hp => by
    have := mem_pairsL'.mp (List.mem_filter.mp hp).1
    omega
  unfold forcedL
  generalize liveL (fk.map (·.2)) n = L at e0 hll hmem
  obtain ⟨ρ', k1, x2, x3, x4, hb, rfl⟩ := oFor_pre (bd := bTup 2 (bCons (bN 2) (bCons (bN 3) bNil))) (body := oSeq (oSet 4 (eCall f_shown_by (aCons (eVar 0) (aCons (eVar 2) (aCons (eVar 3) aNil)))))
    (oFix [4] (oIf (tOf (eOp gInT (eTup (aCons (eC (.int 1)) (aCons (eC (.int 1)) aNil))) (eVar 4))) (oFix [4] (oMutS (mMut 1 gAppend (aCons (eTup (aCons (eC (.str "joined")) (aCons (eVar 2) (aCons (eVar 3) (aCons (eOp gGetT (eVar 4) (eTup (aCons (eC (.int 1)) (aCons (eC (.int 1)) aNil)))) aNil))))) aNil)))) (oFix [4] (oIf (tAndF (tOf (eOp gInT (eTup (aCons (eC (.int 0)) (aCons (eC (.int 1)) aNil))) (eVar 4))) (tOf (eOp gInT (eTup (aCons (eC (.int 1)) (aCons (eC (.int 0)) aNil))) (eVar 4)))) (oFix [4] (oMutS (mMut 1 gAppend (aCons (eTup (aCons (eC (.str "parted")) (aCons (eVar 2) (aCons (eVar 3) (aCons (eOp gGetT (eVar 4) (eTup (aCons (eC (.int 0)) (aCons (eC (.int 1)) aNil)))) (aCons (eOp gGetT (eVar 4) (eTup (aCons (eC (.int 1)) (aCons (eC (.int 0)) aNil)))) aNil)))))) aNil)))) oNx))))) (e := npD)
    (fun pre ρ => ∃ (x2 x3 x4 : Option Sl), (pre.flatMap (forcedAt fk)).length ≤ pre.length ∧ ρ = [some (.dat (.list (fk.map fkD))), some (.own (.list ((pre.flatMap (forcedAt fk)).map factD))), x2, x3, x4]) L
    [some (.dat (.list (fk.map fkD))), some (.own (.list [])), none, none, none] ⟨none, none, none, Nat.le_refl _, rfl⟩ fun pre p post ρ hl' hp => by
      obtain ⟨x2, x3, x4, hb, rfl⟩ := hp
      have hm := hmem p (by rw [hl']; simp)
      obtain ⟨es, s1, s2⟩ := shown_by_spec fk n p.1 p.2 hm.1 hm.2 hr hl
      have hpl : pre.length + 1 ≤ L.length := by rw [hl']; simp
      have hx := forcedAt_len fk p
      have hbig : big (((pre.flatMap (forcedAt fk)).map factD).length + 1) = true := decide_eq_true (by rw [List.length_map]; omega)
      have hap : ∀ d, gAppend ((pre.flatMap (forcedAt fk)).map factD) [d] = some ((pre.flatMap (forcedAt fk)).map factD ++ [d], .none) := fun d => if_pos hbig
      have eF : (pre ++ [p]).flatMap (forcedAt fk) = pre.flatMap (forcedAt fk) ++ forcedAt fk p := by
        rw [List.flatMap_append]
        simp
      refine ⟨[some (.dat (.list (fk.map fkD))), some (.own (.list ((pre.flatMap (forcedAt fk)).map factD))), some (.dat (nD p.1)), some (.dat (nD p.2)), x4], [some (.dat (.list (fk.map fkD))), some (.own (.list (((pre ++ [p]).flatMap (forcedAt fk)).map factD))), some (.dat (nD p.1)), some (.dat (nD p.2)), some (.dat (dE es))], rfl, .inl ?_, _, _, _, ?_, rfl⟩
      · refine seqN (ρ' := [some (.dat (.list (fk.map fkD))), some (.own (.list ((pre.flatMap (forcedAt fk)).map factD))), some (.dat (nD p.1)), some (.dat (nD p.2)), some (.own (dE es))]) ?_ ?_
        · simp only [oSet, eCall, aCons, aNil, eVar, List.getElem?_cons_zero, List.getElem?_cons_succ, bindN_ok, Sl.d_dat, s1, oOfN_ok]
          rfl
        refine fixN ?_
        simp only [fixs, Env.fix, List.getElem?_cons_zero, List.getElem?_cons_succ, fixS_own, List.set_cons_zero, List.set_cons_succ]
        have i11 := inT_spec es _ s2 (1, 1)
        have i01 := inT_spec es _ s2 (0, 1)
        have i10 := inT_spec es _ s2 (1, 0)
        have g11 := getT_spec es _ s2 (1, 1)
        have g01 := getT_spec es _ s2 (0, 1)
        have g10 := getT_spec es _ s2 (1, 0)
        rw [eF]
        clear eF
        generalize pre.flatMap (forcedAt fk) = A at hb hbig hap ⊢
        unfold forcedAt
        cases h11 : firstOf (sayL fk p.1 p.2) (1, 1) with
        | some w =>
          rw [h11] at i11
          have g := g11 w h11
          refine ifN_t (by simp only [tOf, eOp, eTup, aCons, aNil, eVar, eC, List.getElem?_cons_zero, List.getElem?_cons_succ, bindN_ok, Sl.d_dat, List.length_cons, List.length_nil, big, Nat.reduceAdd, Nat.reduceLeDiff, decide_true, if_true, i11, retB, isB, Option.isSome_some]) ?_
          refine fixN ?_
          simp only [fixs, Env.fix, List.getElem?_cons_zero, List.getElem?_cons_succ, fixS_dat, List.set_cons_zero, List.set_cons_succ]
          simp only [oMutS, mMut, mLift, eOp, eTup, aCons, aNil, eVar, eC, List.getElem?_cons_zero, List.getElem?_cons_succ, bindN_ok, Sl.d_dat, List.length_cons, List.length_nil, big, Nat.reduceAdd, Nat.reduceLeDiff, decide_true, if_true, g, hap, oOfN_ok, List.set_cons_zero, List.set_cons_succ]
          rw [List.map_append]
          rfl
        | none =>
          rw [h11] at i11
          refine ifN_f (by simp only [tOf, eOp, eTup, aCons, aNil, eVar, eC, List.getElem?_cons_zero, List.getElem?_cons_succ, bindN_ok, Sl.d_dat, List.length_cons, List.length_nil, big, Nat.reduceAdd, Nat.reduceLeDiff, decide_true, if_true, i11, retB, isB, Option.isSome_none]) ?_
          refine fixN ?_
          simp only [fixs, Env.fix, List.getElem?_cons_zero, List.getElem?_cons_succ, fixS_dat, List.set_cons_zero, List.set_cons_succ]
          cases h01 : firstOf (sayL fk p.1 p.2) (0, 1) with
          | none =>
            rw [h01] at i01
            refine ifN_f (by simp only [tAndF, tOf, eOp, eTup, aCons, aNil, eVar, eC, List.getElem?_cons_zero, List.getElem?_cons_succ, bindN_ok, Sl.d_dat, List.length_cons, List.length_nil, big, Nat.reduceAdd, Nat.reduceLeDiff, decide_true, if_true, if_false, Bool.false_eq_true, i01, retB, isB, Option.isSome_none]) ?_
            simp only [List.append_nil]
            rfl
          | some w1 =>
            rw [h01] at i01
            cases h10 : firstOf (sayL fk p.1 p.2) (1, 0) with
            | none =>
              rw [h10] at i10
              refine ifN_f (by simp only [tAndF, tOf, eOp, eTup, aCons, aNil, eVar, eC, List.getElem?_cons_zero, List.getElem?_cons_succ, bindN_ok, Sl.d_dat, List.length_cons, List.length_nil, big, Nat.reduceAdd, Nat.reduceLeDiff, decide_true, if_true, if_false, Bool.false_eq_true, i01, i10, retB, isB, Option.isSome_none, Option.isSome_some]) ?_
              simp only [List.append_nil]
              rfl
            | some w2 =>
              rw [h10] at i10
              have ga := g01 w1 h01
              have gb := g10 w2 h10
              refine ifN_t (by simp only [tAndF, tOf, eOp, eTup, aCons, aNil, eVar, eC, List.getElem?_cons_zero, List.getElem?_cons_succ, bindN_ok, Sl.d_dat, List.length_cons, List.length_nil, big, Nat.reduceAdd, Nat.reduceLeDiff, decide_true, if_true, if_false, Bool.false_eq_true, i01, i10, retB, isB, Option.isSome_none, Option.isSome_some]) ?_
              refine fixN ?_
              simp only [fixs, Env.fix, List.getElem?_cons_zero, List.getElem?_cons_succ, fixS_dat, List.set_cons_zero, List.set_cons_succ]
              simp only [oMutS, mMut, mLift, eOp, eTup, aCons, aNil, eVar, eC, List.getElem?_cons_zero, List.getElem?_cons_succ, bindN_ok, Sl.d_dat, List.length_cons, List.length_nil, big, Nat.reduceAdd, Nat.reduceLeDiff, decide_true, if_true, ga, gb, hap, oOfN_ok, List.set_cons_zero, List.set_cons_succ]
              rw [List.map_append]
              rfl
      · rw [eF, List.length_append, List.length_append, List.length_singleton]
        omega
  unfold f_forced o_forced
  refine fnO_rt rfl ?_
  refine seqN (by walk_at "ev"; rfl) ?_
  have hit : (iOf (eCall f_live_pairs (aCons (eVar 0) aNil))) [some (.dat (.list (fk.map fkD))), some (.own (.list [])), none, none, none] = .ok (L.map npD) := by
    simp only [iOf, eCall, aCons, aNil, eVar, List.getElem?_cons_zero, bindN_ok, Sl.d_dat, Sl.d_own, e0, itemsD]
  refine seqN (forN hit k1) ?_
  rfl
/-! clash -/
def clashAt (fk : Folk) (p : Nat × Nat) : Option (Str × Str × Str) := match firstOf (sayL fk p.1 p.2) (0, 1), firstOf (sayL fk p.1 p.2) (1, 0), firstOf (sayL fk p.1 p.2) (1, 1) with
  | some a, some b, some c => some (a, b, c)
  | _, _, _ => none
def clashD (p : Nat × Nat) (t : Str × Str × Str) : PyData := .tuple [.str "clash", nD p.1, nD p.2, .str t.1, .str t.2.1, .str t.2.2]
def clashL (fk : Folk) (n : Nat) : Option (Nat × Nat) := (pairsL n).find? fun p => (clashAt fk p).isSome
def clashR (fk : Folk) (n : Nat) : PyData := match clashL fk n with
  | some p => clashD p ((clashAt fk p).getD ("", "", ""))
  | none => .none
theorem clash_spec (fk : Folk) (n : Nat) (hn : n ≤ 1000) (hr : ∀ f ∈ fk, f.2.length = n ∧ mixR f.2) (hl : fk.length ≤ 100000) : f_clash [.list (fk.map fkD), nD n] = .ok (.dat (clashR fk n)) := by
  have hps := pairs_spec n hn
  have hfind := oFor_find (bd := bTup 2 (bCons (bN 2) (bCons (bN 3) bNil))) (body := oSeq (oSet 4 (eCall f_shown_by (aCons (eVar 0) (aCons (eVar 2) (aCons (eVar 3) aNil)))))
    (oFix [4] (oIf (tOf (eCall f_has_all (aCons (eVar 4) aNil))) (oFix [4] (oRet (eTup (aCons (eC (.str "clash")) (aCons (eVar 2) (aCons (eVar 3) (aCons (eOp gGetT (eVar 4) (eTup (aCons (eC (.int 0)) (aCons (eC (.int 1)) aNil)))) (aCons (eOp gGetT (eVar 4) (eTup (aCons (eC (.int 1)) (aCons (eC (.int 0)) aNil)))) (aCons (eOp gGetT (eVar 4) (eTup (aCons (eC (.int 1)) (aCons (eC (.int 1)) aNil)))) aNil))))))))) oNx))) (e := npD)
    (fun ρ => ∃ x2 x3 x4, ρ = [some (.dat (.list (fk.map fkD))), some (.dat (nD n)), x2, x3, x4]) (fun p => (clashAt fk p).isSome) (fun p => .dat (clashD p ((clashAt fk p).getD ("", "", "")))) (pairsL n)
    [some (.dat (.list (fk.map fkD))), some (.dat (nD n)), none, none, none] ⟨_, _, _, rfl⟩ (by
      rintro p hp ρ ⟨x2, x3, x4, rfl⟩
      obtain ⟨m1, m2⟩ := mem_pairsL hp
      obtain ⟨es, s1, s2⟩ := shown_by_spec fk n p.1 p.2 (by omega) m2 hr hl
      have h3 := has_allG es _ s2
      have g11 := getT_spec es _ s2 (1, 1)
      have g01 := getT_spec es _ s2 (0, 1)
      have g10 := getT_spec es _ s2 (1, 0)
      have hs : ∀ o, oFix [4] o [some (.dat (.list (fk.map fkD))), some (.dat (nD n)), some (.dat (nD p.1)), some (.dat (nD p.2)), some (.own (dE es))] = o [some (.dat (.list (fk.map fkD))), some (.dat (nD n)), some (.dat (nD p.1)), some (.dat (nD p.2)), some (.dat (dE es))] := fun o => rfl
      have hs2 : ∀ o, oFix [4] o [some (.dat (.list (fk.map fkD))), some (.dat (nD n)), some (.dat (nD p.1)), some (.dat (nD p.2)), some (.dat (dE es))] = o [some (.dat (.list (fk.map fkD))), some (.dat (nD n)), some (.dat (nD p.1)), some (.dat (nD p.2)), some (.dat (dE es))] := fun o => rfl
      have hset : oSet 4 (eCall f_shown_by (aCons (eVar 0) (aCons (eVar 2) (aCons (eVar 3) aNil)))) [some (.dat (.list (fk.map fkD))), some (.dat (nD n)), some (.dat (nD p.1)), some (.dat (nD p.2)), x4] = .nx [some (.dat (.list (fk.map fkD))), some (.dat (nD n)), some (.dat (nD p.1)), some (.dat (nD p.2)), some (.own (dE es))] := by
        simp only [oSet, eCall, aCons, aNil, eVar, List.getElem?_cons_zero, List.getElem?_cons_succ, bindN_ok, Sl.d_dat, s1, oOfN_ok]
        rfl
      refine ⟨[some (.dat (.list (fk.map fkD))), some (.dat (nD n)), some (.dat (nD p.1)), some (.dat (nD p.2)), x4], rfl, ?_, ?_⟩
      · intro hp0
        have h3' : f_has_all [dE es] = .ok (.dat (.bool false)) := by
          rw [h3]
          refine congrArg (fun b => Dl.M.ok (Sl.dat (.bool b))) ?_
          unfold clashAt at hp0
          generalize firstOf (sayL fk p.1 p.2) (0, 1) = a at hp0
          generalize firstOf (sayL fk p.1 p.2) (1, 0) = b at hp0
          generalize firstOf (sayL fk p.1 p.2) (1, 1) = c at hp0
          cases a <;> cases b <;> cases c <;> first | rfl | cases hp0
        refine ⟨[some (.dat (.list (fk.map fkD))), some (.dat (nD n)), some (.dat (nD p.1)), some (.dat (nD p.2)), some (.dat (dE es))], .inl (seqN hset ?_), _, _, _, rfl⟩
        rw [hs]
        refine ifN_f ?_ rfl
        simp only [tOf, eCall, aCons, aNil, eVar, List.getElem?_cons_zero, List.getElem?_cons_succ, bindN_ok, Sl.d_dat, h3', isB]
      · intro hp1
        have h3' : f_has_all [dE es] = .ok (.dat (.bool true)) := by
          rw [h3]
          refine congrArg (fun b => Dl.M.ok (Sl.dat (.bool b))) ?_
          unfold clashAt at hp1
          generalize firstOf (sayL fk p.1 p.2) (0, 1) = a at hp1
          generalize firstOf (sayL fk p.1 p.2) (1, 0) = b at hp1
          generalize firstOf (sayL fk p.1 p.2) (1, 1) = c at hp1
          cases a <;> cases b <;> cases c <;> first | rfl | cases hp1
        refine seqN hset ?_
        rw [hs]
        refine ifN_t (by simp only [tOf, eCall, aCons, aNil, eVar, List.getElem?_cons_zero, List.getElem?_cons_succ, bindN_ok, Sl.d_dat, h3', isB]) ?_
        rw [hs2]
        unfold clashAt at hp1 ⊢
        cases h01 : firstOf (sayL fk p.1 p.2) (0, 1) with
        | none => rw [h01] at hp1; cases hp1
        | some a =>
          cases h10 : firstOf (sayL fk p.1 p.2) (1, 0) with
          | none => rw [h01, h10] at hp1; cases hp1
          | some b =>
            cases h11 : firstOf (sayL fk p.1 p.2) (1, 1) with
            | none => rw [h01, h10, h11] at hp1; cases hp1
            | some c =>
              have ga := g01 a h01
              have gb := g10 b h10
              have gc := g11 c h11
              simp only [oRet, eOp, eTup, aCons, aNil, eVar, eC, List.getElem?_cons_zero, List.getElem?_cons_succ, bindN_ok, Sl.d_dat, List.length_cons, List.length_nil, big, Nat.reduceAdd, Nat.reduceLeDiff, decide_true, if_true, ga, gb, gc, oOfN_ok]
              rfl)
  unfold f_clash o_clash
  refine fnO_rt rfl ?_
  have l1 : (0 : Int) ≤ (n : Int) := by omega
  have l2 : (n : Int) ≤ 10000 := by omega
  have hrg := rng_map n
  have hit : (iOf (eCall f_pairs_of (aCons (eLstRg1 (eVar 1)) aNil))) [some (.dat (.list (fk.map fkD))), some (.dat (nD n)), none, none, none] = .ok ((pairsL n).map npD) := by
    clear hfind
    simp only [iOf, eCall, aCons, aNil, eLstRg1, eVar, List.getElem?_cons_zero, List.getElem?_cons_succ, bindN_ok, Sl.d_dat, isI, l1, l2, and_self, if_true, Sl.d_own, Int.toNat_natCast, hrg]
    rw [hps]
    rfl
  unfold clashR clashL
  rcases hfind with ⟨p, h1, h2⟩ | ⟨h1, ρ', h2, x2, x3, x4, rfl⟩
  · rw [h1]
    show oSeq _ _ [some (.dat (.list (fk.map fkD))), some (.dat (nD n)), none, none, none] = _
    exact seqR (forN hit h2)
  · rw [h1]
    refine seqN (forN hit h2) ?_
    rfl
/-! all facts -/
structure Said where
  w : Str
  a : Nat
  b : Nat
  t : Bool
abbrev saidD (s : Said) : PyData := .tuple [.str s.w, nD s.a, nD s.b, .str (wordS s.t)]
abbrev saidF (s : Said) : Fact := .said s.w s.a s.b s.t
def factsL (fk : Folk) (n : Nat) (sd : List Said) : List Fact := fk.flatMap threeL ++ forcedL fk n ++ sd.map saidF
theorem pairsG_len (l : List Nat) : (pairsG l).length ≤ l.length * l.length := by
  unfold pairsG
  rw [List.length_flatMap]
  have : ∀ (k : List Nat), (k.map fun k => ((l.drop (k + 1)).map fun j => (l.getD k 0, j)).length).sum ≤ k.length * l.length := by
    intro k
    induction k with
    | nil => simp
    | cons x k ih =>
      simp only [List.map_cons, List.sum_cons, List.length_cons, Nat.add_mul, Nat.one_mul]
      have : ((l.drop (x + 1)).map fun j => (l.getD x 0, j)).length ≤ l.length := by simp
      omega
  have := this (List.range l.length)
  rw [List.length_range] at this
  exact this
theorem threeL_len (f : Str × List Int) : (threeL f).length ≤ f.2.length * f.2.length := by
  have h := mixL_len f.2
  unfold threeL
  split
  · exact Nat.zero_le _
  · rename_i a l e
    rw [e, List.length_cons] at h
    rw [List.length_map]
    exact Nat.le_trans (pairsG_len l) (Nat.mul_le_mul (by omega) (by omega))
theorem forcedL_len (fk : Folk) (n : Nat) : (forcedL fk n).length ≤ n * n := by
  have h := live_len fk n
  unfold forcedL
  refine Nat.le_trans ?_ h
  generalize liveL (fk.map (·.2)) n = L
  induction L with
  | nil => simp
  | cons p L ih =>
    have := forcedAt_len fk p
    rw [List.flatMap_cons, List.length_append, List.length_cons]
    omega
theorem facts_spec (fk : Folk) (n : Nat) (sd : List Said) (hn : n ≤ 100) (hr : ∀ f ∈ fk, f.2.length = n ∧ mixR f.2) (hl : fk.length ≤ 100) (hs : sd.length ≤ 100000) :
    f_facts_of [.list (fk.map fkD), .list (sd.map saidD)] = .ok (.own (.list ((factsL fk n sd).map factD))) := by
  have e1 := forced_spec fk n (by omega) hr (by omega)
  have hnn : n * n ≤ 10000 := Nat.le_trans (Nat.mul_le_mul hn hn) (by decide)
  have hf := forcedL_len fk n
  obtain ⟨ρ', k1, x3, x4, hb, rfl⟩ := oFor_pre (bd := bTup 2 (bCons (bN 3) (bCons (bN 4) bNil))) (body := oMutS (mMut 2 gExtend (aCons (eCall f_threes (aCons (eVar 3) (aCons (eVar 4) aNil))) aNil))) (e := fkD)
    (fun pre ρ => ∃ (x3 x4 : Option Sl), (pre.flatMap threeL).length ≤ pre.length * 10000 ∧ ρ = [some (.dat (.list (fk.map fkD))), some (.dat (.list (sd.map saidD))), some (.own (.list ((pre.flatMap threeL).map factD))), x3, x4, none, none, none]) fk
    [some (.dat (.list (fk.map fkD))), some (.dat (.list (sd.map saidD))), some (.own (.list [])), none, none, none, none, none] ⟨none, none, Nat.le_refl _, rfl⟩ fun pre f post ρ hl' hp => by
      obtain ⟨x3, x4, hb, rfl⟩ := hp
      have hrl := (hr f (by rw [hl']; simp)).1
      have t1 := threes_spec f (by omega)
      have t2 := threeL_len f
      rw [hrl] at t2
      have hpl : pre.length + 1 ≤ fk.length := by rw [hl']; simp
      have eF : (pre ++ [f]).flatMap threeL = pre.flatMap threeL ++ threeL f := by
        rw [List.flatMap_append]
        simp
      have hbig : big (((pre.flatMap threeL).map factD).length + ((threeL f).map factD).length) = true := decide_eq_true (by
        rw [List.length_map, List.length_map]
        have : pre.length * 10000 ≤ 100 * 10000 := Nat.mul_le_mul_right _ (by omega)
        omega)
      have hx : gExtend ((pre.flatMap threeL).map factD) [.list ((threeL f).map factD)] = some ((pre.flatMap threeL).map factD ++ (threeL f).map factD, .none) := if_pos hbig
      refine ⟨[some (.dat (.list (fk.map fkD))), some (.dat (.list (sd.map saidD))), some (.own (.list ((pre.flatMap threeL).map factD))), some (.dat (.str f.1)), some (.dat (rowD f.2)), none, none, none], [some (.dat (.list (fk.map fkD))), some (.dat (.list (sd.map saidD))), some (.own (.list (((pre ++ [f]).flatMap threeL).map factD))), some (.dat (.str f.1)), some (.dat (rowD f.2)), none, none, none], rfl, .inl ?_, _, _, ?_, rfl⟩
      · simp only [oMutS, mMut, mLift, eCall, aCons, aNil, eVar, List.getElem?_cons_zero, List.getElem?_cons_succ, bindN_ok, Sl.d_dat, Sl.d_own, t1, hx, oOfN_ok, List.set_cons_zero, List.set_cons_succ]
        rw [eF, List.map_append]
      · rw [eF, List.length_append, List.length_append, List.length_singleton]
        omega
  have hb2 : (fk.flatMap threeL).length ≤ 1000000 := by
    have : fk.length * 10000 ≤ 100 * 10000 := Nat.mul_le_mul_right _ hl
    omega
  have hx : gExtend ((fk.flatMap threeL).map factD) [.list ((forcedL fk n).map factD)] = some ((fk.flatMap threeL ++ forcedL fk n).map factD, .none) := by
    rw [List.map_append]
    exact if_pos (decide_eq_true (by rw [List.length_map, List.length_map]; omega))
  have hb3 : (fk.flatMap threeL ++ forcedL fk n).length ≤ 2000000 := by
    rw [List.length_append]
    omega
  unfold factsL
  generalize fk.flatMap threeL ++ forcedL fk n = A at hx hb3 ⊢
  obtain ⟨ρ'', k2, y3, y4, y5, y6, y7, rfl⟩ := oFor_pre (bd := bTup 4 (bCons (bN 3) (bCons (bN 5) (bCons (bN 6) (bCons (bN 7) bNil))))) (body := oMutS (mMut 2 gAppend (aCons (eTup (aCons (eC (.str "said")) (aCons (eVar 3) (aCons (eVar 5) (aCons (eVar 6) (aCons (eVar 7) aNil)))))) aNil))) (e := saidD)
    (fun pre ρ => ∃ (y3 y4 y5 y6 y7 : Option Sl), ρ = [some (.dat (.list (fk.map fkD))), some (.dat (.list (sd.map saidD))), some (.own (.list ((A ++ pre.map saidF).map factD))), y3, y4, y5, y6, y7]) sd
    [some (.dat (.list (fk.map fkD))), some (.dat (.list (sd.map saidD))), some (.own (.list (A.map factD))), x3, x4, none, none, none] ⟨x3, x4, none, none, none, by simp⟩ fun pre f post ρ hl' hp => by
      obtain ⟨y3, y4, y5, y6, y7, rfl⟩ := hp
      have hpl : pre.length + 1 ≤ sd.length := by rw [hl']; simp
      have hbig : big (((A ++ pre.map saidF).map factD).length + 1) = true := decide_eq_true (by
        rw [List.length_map, List.length_append, List.length_map]
        omega)
      have hap : ∀ d, gAppend ((A ++ pre.map saidF).map factD) [d] = some ((A ++ pre.map saidF).map factD ++ [d], .none) := fun d => if_pos hbig
      refine ⟨[some (.dat (.list (fk.map fkD))), some (.dat (.list (sd.map saidD))), some (.own (.list ((A ++ pre.map saidF).map factD))), some (.dat (.str f.w)), y4, some (.dat (nD f.a)), some (.dat (nD f.b)), some (.dat (.str (wordS f.t)))], [some (.dat (.list (fk.map fkD))), some (.dat (.list (sd.map saidD))), some (.own (.list ((A ++ (pre ++ [f]).map saidF).map factD))), some (.dat (.str f.w)), y4, some (.dat (nD f.a)), some (.dat (nD f.b)), some (.dat (.str (wordS f.t)))], rfl, .inl ?_, _, _, _, _, _, rfl⟩
      simp only [oMutS, mMut, mLift, eTup, aCons, aNil, eVar, eC, List.getElem?_cons_zero, List.getElem?_cons_succ, bindN_ok, Sl.d_dat, Sl.d_own, List.length_cons, List.length_nil, big, Nat.reduceAdd, Nat.reduceLeDiff, decide_true, if_true, hap, oOfN_ok, List.set_cons_zero, List.set_cons_succ]
      simp only [List.map_append, List.append_assoc, List.map_cons, List.map_nil]
      rfl
  unfold f_facts_of o_facts_of
  refine fnO_rt rfl ?_
  refine seqN (by walk_at "ev"; rfl) ?_
  refine seqN (forN rfl k1) ?_
  refine seqN (ρ' := [some (.dat (.list (fk.map fkD))), some (.dat (.list (sd.map saidD))), some (.own (.list (A.map factD))), x3, x4, none, none, none]) ?_ ?_
  · simp only [oMutS, mMut, mLift, eCall, aCons, aNil, eVar, List.getElem?_cons_zero, List.getElem?_cons_succ, bindN_ok, Sl.d_dat, Sl.d_own, e1, hx, oOfN_ok, List.set_cons_zero, List.set_cons_succ]
  refine seqN (forN rfl k2) ?_
  rfl
end Dl
/-! Joints.looked. -/
namespace Dl
open PySem PySem.Spec PyProof.Rows L2
def runF (K : List Sm) (k : Nat) : List Fact → List Sm × Option (List Nat)
  | [] => (K, none)
  | f :: fs => match takeR K (newS (sumPs f) (sumB f) k) with
    | some md => (takeK K (newS (sumPs f) (sumB f) k), some md)
    | none => runF (takeK K (newS (sumPs f) (sumB f) k)) (k + 1) fs
def oddD (F : List Fact) (md : List Nat) : PyData := .tuple [.str "odd", .tuple (md.map fun k => (F.map factD).getD k .none)]
def FactOk (n : Nat) (f : Fact) : Prop := (sumPs f).Nodup ∧ ∀ p ∈ sumPs f, p.1 < n ∧ p.2 < n
theorem sumB_lt (f : Fact) : sumB f < 2 := by
  cases f with
  | three w a b c => exact Nat.zero_lt_succ 1
  | joined a b w => exact Nat.zero_lt_succ 1
  | parted a b w1 w2 => exact Nat.lt_succ_self 1
  | said w a b t => cases t <;> first | exact Nat.zero_lt_succ 1 | exact Nat.lt_succ_self 1
theorem takeR_lt {N M : Nat} {K : List Sm} {r : Sm} (h : Red N M K) (hr : OkS N M r) {md : List Nat} (e : takeR K r = some md) : md.length ≤ M ∧ ∀ k ∈ md, k < M := by
  have om := OkS.lessen K (fun m hm => (h.ok m hm).1) hr
  unfold takeR at e
  split at e
  · cases e
    exact ⟨om.len.2, om.m⟩
  · cases e
theorem fac_ix (F : List Fact) (k : Nat) (h : k < F.length) : gIx (.list (F.map factD)) (nD k) = .ok (.dat ((F.map factD).getD k .none)) := by
  refine gIx_l ?_
  unfold atI ixN
  rw [if_pos (by omega), if_pos (by rw [List.length_map]; omega)]
  show (F.map factD)[((k : Nat) : Int).toNat]? = _
  rw [Int.toNat_natCast, List.getD_eq_getElem?_getD, List.getElem?_eq_getElem (by rw [List.length_map]; exact h)]
  rfl
theorem hideS_d {d : PyData} : hideS (some (.dat d)) = some (.dat d) := rfl
theorem hideS_r {n : Nat} : hideS (some (.ref n)) = none := rfl
theorem hideS_n : hideS none = none := rfl
abbrev bdL : PyData → Rho → Option Rho := b2Tup 2 (b2Cons (b2N 3) (b2Cons (b2N 4) b2Nil))
abbrev boL : S2 → O2 := (o2Seq (o2Asg (lift (eCall f_sum_of (aCons (eVar 4) aNil))) (b2Tup 2 (b2Cons (b2N 6) (b2Cons (b2N 7) b2Nil))))
    (o2Seq (o2Set 5 (methS2 "Sums" "take" f2_Sums_take (fldRef 0 "Joints" "sums") (cons2 (lift (eVar 6)) (cons2 (lift (eVar 7)) (cons2 (lift (eVar 3)) nil2)))))
    (o2If (liftT (tOf (eOp gNotN (eVar 5) (eC .none)))) (o2Fix [2] (o2Ret (lift (eTup (aCons (eC (.str "odd")) (aCons (eCall gTuple (aCons (eLc (iOf (eVar 5)) [8] (bN 8) (fun _ => .ok true) (eOp gIx (eVar 2) (eVar 8))) aNil)) aNil)))))) o2Nx)))
theorem loop_L (n : Nat) (hn : n ≤ 100) (F : List Fact) (hF : F.length ≤ 200000) (hok : ∀ f ∈ F, FactOk n f) (fs : List (Str × Sv)) (hfs : List.lookup ("sums" : Str) fs = some (Sv.ref 1)) (x1 : Option Sv) :
    ∀ (post pre : List Fact) (K : List Sm) (x3 x4 x5 x6 x7 : Option Sv), F = pre ++ post → Red n F.length K → K.length ≤ pre.length →
      (∃ K', runF K pre.length post = (K', none) ∧ Red n F.length K' ∧ ∃ y3 y4 y5 y6 y7, o2For bdL boL ((post.zipIdx pre.length).map fun p => PyData.tuple [nD p.2, factD p.1]) ⟨[some (.ref 0), x1, some (.dat (.list (F.map factD))), x3, x4, x5, x6, x7, none], [⟨"Joints", fs⟩, suC K]⟩ = .nx ⟨[some (.ref 0), x1, some (.dat (.list (F.map factD))), y3, y4, y5, y6, y7, none], [⟨"Joints", fs⟩, suC K']⟩) ∨
      (∃ K' md, runF K pre.length post = (K', some md) ∧ Red n F.length K' ∧ (∀ k ∈ md, k < F.length) ∧ ∃ ρ, o2For bdL boL ((post.zipIdx pre.length).map fun p => PyData.tuple [nD p.2, factD p.1]) ⟨[some (.ref 0), x1, some (.dat (.list (F.map factD))), x3, x4, x5, x6, x7, none], [⟨"Joints", fs⟩, suC K]⟩ = .rt (.dat (oddD F md)) ⟨ρ, [⟨"Joints", fs⟩, suC K']⟩)
  | [], pre, K, x3, x4, x5, x6, x7, e, hK, hl => .inl ⟨K, rfl, hK, x3, x4, x5, x6, x7, rfl⟩
  | f :: post, pre, K, x3, x4, x5, x6, x7, e, hK, hl => by
    have hpl : pre.length + 1 ≤ F.length := by rw [e]; simp
    have hfo := hok f (by rw [e]; simp)
    have hr := newS_ok (M := F.length) (k := pre.length) hfo.1 hfo.2 (sumB_lt f) (by omega)
    have s1 := sum_of_spec f
    have t1 := take_spec n F.length hn hF K hK (by omega) (sumPs f) (sumB f) pre.length hr [⟨"Joints", fs⟩, suC K] 1 rfl
    have hst : o2Seq (o2Asg (lift (eCall f_sum_of (aCons (eVar 4) aNil))) (b2Tup 2 (b2Cons (b2N 6) (b2Cons (b2N 7) b2Nil))))
        (o2Seq (o2Set 5 (methS2 "Sums" "take" f2_Sums_take (fldRef 0 "Joints" "sums") (cons2 (lift (eVar 6)) (cons2 (lift (eVar 7)) (cons2 (lift (eVar 3)) nil2)))))
        (o2If (liftT (tOf (eOp gNotN (eVar 5) (eC .none)))) (o2Fix [2] (o2Ret (lift (eTup (aCons (eC (.str "odd")) (aCons (eCall gTuple (aCons (eLc (iOf (eVar 5)) [8] (bN 8) (fun _ => .ok true) (eOp gIx (eVar 2) (eVar 8))) aNil)) aNil)))))) o2Nx))
        ⟨[some (.ref 0), x1, some (.dat (.list (F.map factD))), some (.dat (nD pre.length)), some (.dat (factD f)), x5, x6, x7, none], [⟨"Joints", fs⟩, suC K]⟩ =
        (o2If (liftT (tOf (eOp gNotN (eVar 5) (eC .none)))) (o2Fix [2] (o2Ret (lift (eTup (aCons (eC (.str "odd")) (aCons (eCall gTuple (aCons (eLc (iOf (eVar 5)) [8] (bN 8) (fun _ => .ok true) (eOp gIx (eVar 2) (eVar 8))) aNil)) aNil)))))) o2Nx)
        ⟨[some (.ref 0), x1, some (.dat (.list (F.map factD))), some (.dat (nD pre.length)), some (.dat (factD f)), some (.dat (optD (takeR K (newS (sumPs f) (sumB f) pre.length)))), some (.dat (.list ((sumPs f).map npD))), some (.dat (.int (sumB f : Int))), none], [⟨"Joints", fs⟩, suC (takeK K (newS (sumPs f) (sumB f) pre.length))]⟩ := by
      refine seq2N (s' := ⟨[some (.ref 0), x1, some (.dat (.list (F.map factD))), some (.dat (nD pre.length)), some (.dat (factD f)), x5, some (.dat (.list ((sumPs f).map npD))), some (.dat (.int (sumB f : Int))), none], [⟨"Joints", fs⟩, suC K]⟩) ?_ (seq2N (s' := ⟨[some (.ref 0), x1, some (.dat (.list (F.map factD))), some (.dat (nD pre.length)), some (.dat (factD f)), some (.dat (optD (takeR K (newS (sumPs f) (sumB f) pre.length)))), some (.dat (.list ((sumPs f).map npD))), some (.dat (.int (sumB f : Int))), none], [⟨"Joints", fs⟩, suC (takeK K (newS (sumPs f) (sumB f) pre.length))]⟩) ?_ rfl)
      · have l1 : lift (eCall f_sum_of (aCons (eVar 4) aNil)) ⟨[some (.ref 0), x1, some (.dat (.list (F.map factD))), some (.dat (nD pre.length)), some (.dat (factD f)), x5, x6, x7, none], [⟨"Joints", fs⟩, suC K]⟩ = .ok (.dat (.tuple [.list ((sumPs f).map npD), .int (sumB f : Int)])) ⟨[some (.ref 0), x1, some (.dat (.list (F.map factD))), some (.dat (nD pre.length)), some (.dat (factD f)), x5, x6, x7, none], [⟨"Joints", fs⟩, suC K]⟩ := by
          refine liftE (sl := .dat _) ?_
          simp only [hide, hideS_d, hideS_r, hideS_n, List.map_cons, List.map_nil, eCall, aCons, aNil, eVar, List.getElem?_cons_zero, List.getElem?_cons_succ, bindN_ok, Sl.d_dat]
          exact s1
        unfold o2Asg
        rw [l1]
        rfl
      · have l2 : methS2 "Sums" "take" f2_Sums_take (fldRef 0 "Joints" "sums") (cons2 (lift (eVar 6)) (cons2 (lift (eVar 7)) (cons2 (lift (eVar 3)) nil2))) ⟨[some (.ref 0), x1, some (.dat (.list (F.map factD))), some (.dat (nD pre.length)), some (.dat (factD f)), x5, some (.dat (.list ((sumPs f).map npD))), some (.dat (.int (sumB f : Int))), none], [⟨"Joints", fs⟩, suC K]⟩ = .ok (.dat (optD (takeR K (newS (sumPs f) (sumB f) pre.length)))) ⟨[some (.ref 0), x1, some (.dat (.list (F.map factD))), some (.dat (nD pre.length)), some (.dat (factD f)), x5, some (.dat (.list ((sumPs f).map npD))), some (.dat (.int (sumB f : Int))), none], [⟨"Joints", fs⟩, suC (takeK K (newS (sumPs f) (sumB f) pre.length))]⟩ := by
          have a1 : fldRef 0 "Joints" "sums" ⟨[some (.ref 0), x1, some (.dat (.list (F.map factD))), some (.dat (nD pre.length)), some (.dat (factD f)), x5, some (.dat (.list ((sumPs f).map npD))), some (.dat (.int (sumB f : Int))), none], [⟨"Joints", fs⟩, suC K]⟩ = .ok (.ref 1) ⟨[some (.ref 0), x1, some (.dat (.list (F.map factD))), some (.dat (nD pre.length)), some (.dat (factD f)), x5, some (.dat (.list ((sumPs f).map npD))), some (.dat (.int (sumB f : Int))), none], [⟨"Joints", fs⟩, suC K]⟩ := by
            simp only [fldRef, List.getElem?_cons_zero, hfs, if_true]
          have nt : List.lookup ("take" : Str) [("kept", Sv.dat (.list (K.map smD)))] = none := by
            have : (("take" : Str) == ("kept" : Str)) = false := by decide +kernel
            simp only [List.lookup, this]
          unfold methS2
          rw [a1]
          simp only [bind2_ok, List.getElem?_cons_succ, List.getElem?_cons_zero, nt, and_self, if_true, cons2, nil2, lift, hide, hideS_d, hideS_r, hideS_n, List.map_cons, List.map_nil, eVar, Sl.sv, Sv.arg]
          rw [t1]
          rfl
        unfold o2Set
        rw [l2]
        rfl
    have hz : ((f :: post).zipIdx pre.length).map (fun p => PyData.tuple [nD p.2, factD p.1]) = PyData.tuple [nD pre.length, factD f] :: (post.zipIdx (pre.length + 1)).map fun p => PyData.tuple [nD p.2, factD p.1] := rfl
    have hbd : bdL (PyData.tuple [nD pre.length, factD f]) [some (.ref 0), x1, some (.dat (.list (F.map factD))), x3, x4, x5, x6, x7, none] = some [some (.ref 0), x1, some (.dat (.list (F.map factD))), some (.dat (nD pre.length)), some (.dat (factD f)), x5, x6, x7, none] := rfl
    rw [hz]
    cases ht : takeR K (newS (sumPs f) (sumB f) pre.length) with
    | some md =>
      obtain ⟨m1, m2⟩ := takeR_lt hK hr ht
      refine .inr ⟨_, md, by unfold runF; rw [ht], hK.takeK hr, m2, [some (.ref 0), x1, some (.dat (.list (F.map factD))), some (.dat (nD pre.length)), some (.dat (factD f)), some (.dat (.list (md.map nD))), some (.dat (.list ((sumPs f).map npD))), some (.dat (.int (sumB f : Int))), none], ?_⟩
      have hbo : boL ⟨[some (.ref 0), x1, some (.dat (.list (F.map factD))), some (.dat (nD pre.length)), some (.dat (factD f)), x5, x6, x7, none], [⟨"Joints", fs⟩, suC K]⟩ = .rt (.dat (oddD F md)) ⟨[some (.ref 0), x1, some (.dat (.list (F.map factD))), some (.dat (nD pre.length)), some (.dat (factD f)), some (.dat (.list (md.map nD))), some (.dat (.list ((sumPs f).map npD))), some (.dat (.int (sumB f : Int))), none], [⟨"Joints", fs⟩, suC (takeK K (newS (sumPs f) (sumB f) pre.length))]⟩ := by
        refine hst.trans ?_
        rw [ht]
        refine if2_t (liftTE (b := true) ?_) ?_
        · simp only [hide, hideS_d, hideS_r, hideS_n, List.map_cons, List.map_nil, tOf, eOp, eVar, eC, List.getElem?_cons_zero, List.getElem?_cons_succ, bindN_ok, Sl.d_dat, optD]
          rfl
        · show o2Ret _ ⟨[some (.ref 0), x1, some (.dat (.list (F.map factD))), some (.dat (nD pre.length)), some (.dat (factD f)), some (.dat (.list (md.map nD))), some (.dat (.list ((sumPs f).map npD))), some (.dat (.int (sumB f : Int))), none], [⟨"Joints", fs⟩, suC (takeK K (newS (sumPs f) (sumB f) pre.length))]⟩ = _
          refine ret2N (liftE (sl := .dat (oddD F md)) ?_)
          have lc := lcF_map (bd := bN 8) (fe := eOp gIx (eVar 2) (eVar 8)) (ρ := [none, hideS x1, some (.dat (.list (F.map factD))), some (.dat (nD pre.length)), some (.dat (factD f)), some (.dat (.list (md.map nD))), some (.dat (.list ((sumPs f).map npD))), some (.dat (.int (sumB f : Int))), none]) (e := nD) (fun k => (F.map factD).getD k .none) md fun k hk => by
            refine ⟨_, rfl, .dat ((F.map factD).getD k .none), ?_, rfl⟩
            simp only [eOp, eVar, List.getElem?_cons_zero, List.getElem?_cons_succ, List.set_cons_succ, List.set_cons_zero, bindN_ok, Sl.d_dat, fac_ix F k (m2 k hk)]
          have hb : big (md.map fun k => (F.map factD).getD k .none).length = true := decide_eq_true (by rw [List.length_map]; omega)
          simp only [hide, hideS_d, hideS_r, hideS_n, List.map_cons, List.map_nil]
          simp only [eTup, aCons, aNil, eC, eCall, eLc, iOf, eVar, List.getElem?_cons_zero, List.getElem?_cons_succ, bindN_ok, Sl.d_dat, itemsD, wipeE, List.set_cons_succ, List.set_cons_zero, lc, hb, if_true, Sl.d_own, gTuple_l]
          simp only [List.length_cons, List.length_nil, big, Nat.reduceAdd, Nat.reduceLeDiff, decide_true, if_true]
          rfl
      unfold o2For
      rw [hbd]
      simp only [hbo]
    | none =>
      have hbo : boL ⟨[some (.ref 0), x1, some (.dat (.list (F.map factD))), some (.dat (nD pre.length)), some (.dat (factD f)), x5, x6, x7, none], [⟨"Joints", fs⟩, suC K]⟩ = .nx ⟨[some (.ref 0), x1, some (.dat (.list (F.map factD))), some (.dat (nD pre.length)), some (.dat (factD f)), some (.dat .none), some (.dat (.list ((sumPs f).map npD))), some (.dat (.int (sumB f : Int))), none], [⟨"Joints", fs⟩, suC (takeK K (newS (sumPs f) (sumB f) pre.length))]⟩ := by
        refine hst.trans ?_
        rw [ht]
        refine if2_f (liftTE (b := false) ?_) rfl
        simp only [hide, hideS_d, hideS_r, hideS_n, List.map_cons, List.map_nil, tOf, eOp, eVar, eC, List.getElem?_cons_zero, List.getElem?_cons_succ, bindN_ok, Sl.d_dat, optD]
        rfl
      have hlen : (takeK K (newS (sumPs f) (sumB f) pre.length)).length ≤ (pre ++ [f]).length := by
        have := takeK_len K (newS (sumPs f) (sumB f) pre.length)
        rw [List.length_append, List.length_singleton]
        omega
      have ih := loop_L n hn F hF hok fs hfs x1 post (pre ++ [f]) (takeK K (newS (sumPs f) (sumB f) pre.length)) (some (.dat (nD pre.length))) (some (.dat (factD f))) (some (.dat .none)) (some (.dat (.list ((sumPs f).map npD)))) (some (.dat (.int (sumB f : Int)))) (by rw [e]; simp) (hK.takeK hr) hlen
      rw [List.length_append, List.length_singleton] at ih
      have er : runF K pre.length (f :: post) = runF (takeK K (newS (sumPs f) (sumB f) pre.length)) (pre.length + 1) post := by
        conv => lhs; unfold runF
        rw [ht]
      have eo : o2For bdL boL (PyData.tuple [nD pre.length, factD f] :: (post.zipIdx (pre.length + 1)).map fun p => PyData.tuple [nD p.2, factD p.1]) ⟨[some (.ref 0), x1, some (.dat (.list (F.map factD))), x3, x4, x5, x6, x7, none], [⟨"Joints", fs⟩, suC K]⟩ = o2For bdL boL ((post.zipIdx (pre.length + 1)).map fun p => PyData.tuple [nD p.2, factD p.1]) ⟨[some (.ref 0), x1, some (.dat (.list (F.map factD))), some (.dat (nD pre.length)), some (.dat (factD f)), some (.dat .none), some (.dat (.list ((sumPs f).map npD))), some (.dat (.int (sumB f : Int))), none], [⟨"Joints", fs⟩, suC (takeK K (newS (sumPs f) (sumB f) pre.length))]⟩ := by
        conv => lhs; unfold o2For
        rw [hbd]
        simp only [hbo]
      rw [er, eo]
      exact ih
end Dl
namespace Dl
open PySem PySem.Spec PyProof.Rows L2
theorem getF_hd {f : Str} {v : PyData} {es : List (PyData × PyData)} : getF ((.str f, v) :: es) f = some v := by
  unfold getF
  rw [List.find?_cons_of_pos (by show decide (f = f) = true; exact decide_eq_true rfl)]
  rfl
theorem getF_tl {f g : Str} {v : PyData} {es : List (PyData × PyData)} (h : ¬ g = f) : getF ((.str g, v) :: es) f = getF es f := by
  unfold getF
  rw [List.find?_cons_of_neg (by show ¬ decide (g = f) = true; rw [decide_eq_false h]; exact Bool.false_ne_true)]
theorem getF_nil {f : Str} : getF [] f = none := rfl
theorem gFld_of {x f : Str} {es : List (PyData × PyData)} {v : PyData} (h : getF es f = some v) : gFld x f (.dict ((.none, .str x) :: es)) = .ok (.dat v) := by
  unfold gFld
  simp only [if_true, h]
theorem lookup_hd {f : Str} {v : Sv} {es : List (Str × Sv)} : List.lookup f ((f, v) :: es) = some v := List.lookup_cons_self
theorem lookup_tl {f g : Str} {v : Sv} {es : List (Str × Sv)} (h : ¬ g = f) : List.lookup f ((g, v) :: es) = List.lookup f es := by
  have : (f == g) = false := by
    simp only [beq_eq_false_iff_ne, ne_eq]
    exact fun e => h e.symm
  simp only [List.lookup, this]
theorem putS_tl {f g : Str} {v u : Sv} {es : List (Str × Sv)} (h : ¬ g = f) : putS f v ((g, u) :: es) = (g, u) :: putS f v es := if_neg h
theorem putS_nil {f : Str} {v : Sv} : putS f v [] = [(f, v)] := rfl
theorem insOf_of {x m : Str} {es : List (PyData × PyData)} (h : getF es m = none) : insOf x m (.dict ((.none, .str x) :: es)) = true := by
  unfold insOf
  simp only [h]
  simp
theorem ne_base_folk : ¬ ("base" : Str) = "folk" := by decide +kernel
theorem ne_base_said : ¬ ("base" : Str) = "said" := by decide +kernel
theorem ne_base_told : ¬ ("base" : Str) = "told" := by decide +kernel
theorem ne_base_pairs : ¬ ("base" : Str) = "pairs" := by decide +kernel
theorem ne_base_sums : ¬ ("base" : Str) = "sums" := by decide +kernel
theorem ne_base_paper : ¬ ("base" : Str) = "paper" := by decide +kernel
theorem ne_base_looked : ¬ ("base" : Str) = "looked" := by decide +kernel
theorem ne_folk_said : ¬ ("folk" : Str) = "said" := by decide +kernel
theorem ne_folk_told : ¬ ("folk" : Str) = "told" := by decide +kernel
theorem ne_folk_pairs : ¬ ("folk" : Str) = "pairs" := by decide +kernel
theorem ne_folk_sums : ¬ ("folk" : Str) = "sums" := by decide +kernel
theorem ne_folk_paper : ¬ ("folk" : Str) = "paper" := by decide +kernel
theorem ne_folk_looked : ¬ ("folk" : Str) = "looked" := by decide +kernel
theorem ne_said_told : ¬ ("said" : Str) = "told" := by decide +kernel
theorem ne_said_pairs : ¬ ("said" : Str) = "pairs" := by decide +kernel
theorem ne_said_sums : ¬ ("said" : Str) = "sums" := by decide +kernel
theorem ne_said_paper : ¬ ("said" : Str) = "paper" := by decide +kernel
theorem ne_said_looked : ¬ ("said" : Str) = "looked" := by decide +kernel
theorem ne_told_pairs : ¬ ("told" : Str) = "pairs" := by decide +kernel
theorem ne_told_sums : ¬ ("told" : Str) = "sums" := by decide +kernel
theorem ne_told_paper : ¬ ("told" : Str) = "paper" := by decide +kernel
theorem ne_told_looked : ¬ ("told" : Str) = "looked" := by decide +kernel
theorem ne_pairs_sums : ¬ ("pairs" : Str) = "sums" := by decide +kernel
theorem ne_pairs_paper : ¬ ("pairs" : Str) = "paper" := by decide +kernel
theorem ne_pairs_looked : ¬ ("pairs" : Str) = "looked" := by decide +kernel
theorem ne_sums_paper : ¬ ("sums" : Str) = "paper" := by decide +kernel
theorem ne_sums_looked : ¬ ("sums" : Str) = "looked" := by decide +kernel
end Dl
/-! Joints made. -/
namespace Dl
open PySem PySem.Spec PyProof.Rows L2
def SaidOk (n : Nat) (s : Said) : Prop := s.a < n ∧ s.b < n
theorem okD_fact (f : Fact) : okD false (factD f) = true := by
  cases f <;> rfl
theorem okD_facts (F : List Fact) : okDA false (F.map factD) = true := okDA_all fun x hx => by
  obtain ⟨f, _, rfl⟩ := List.mem_map.mp hx
  exact okD_fact f
theorem okD_clash (T : Folk) (n : Nat) : okD false (clashR T n) = true := by
  unfold clashR
  split <;> rfl
theorem facts_ok (T : Folk) (n : Nat) (sd : List Said) (hr : ∀ f ∈ T, f.2.length = n) (hs : ∀ s ∈ sd, SaidOk n s) : ∀ f ∈ factsL T n sd, FactOk n f := by
  intro f hf
  unfold factsL at hf
  rcases List.mem_append.mp hf with hf | hf
  · rcases List.mem_append.mp hf with hf | hf
    · obtain ⟨q, hq, hf⟩ := List.mem_flatMap.mp hf
      have hl := hr q hq
      have up := mixL_up q.2
      unfold threeL at hf
      split at hf
      · cases hf
      · rename_i a l e
        obtain ⟨p, hp, rfl⟩ := List.mem_map.mp hf
        rw [e, List.pairwise_cons] at up
        obtain ⟨z1, z2, z3⟩ := (mem_pairsG up.2).mp hp
        have h1 : a < n := by
          have := (mem_mixL (r := q.2) (i := a)).mp (by rw [e]; simp)
          omega
        have h2 : p.1 < n := by
          have := (mem_mixL (r := q.2) (i := p.1)).mp (by rw [e]; exact List.mem_cons_of_mem _ z1)
          omega
        have h3 : p.2 < n := by
          have := (mem_mixL (r := q.2) (i := p.2)).mp (by rw [e]; exact List.mem_cons_of_mem _ z2)
          omega
        have u1 := up.1 _ z1
        have u2 := up.1 _ z2
        refine ⟨?_, ?_⟩
        · simp [sumPs]
          omega
        · intro x hx
          simp [sumPs] at hx
          rcases hx with rfl | rfl | rfl <;> exact ⟨by assumption, by assumption⟩
    · unfold forcedL at hf
      obtain ⟨p, hp, hf⟩ := List.mem_flatMap.mp hf
      have hm := mem_pairsL'.mp (List.mem_filter.mp hp).1
      unfold forcedAt at hf
      have key : ∀ f, sumPs f = [p] → FactOk n f := fun f e => by
        refine ⟨by rw [e]; simp, fun x hx => ?_⟩
        rw [e, List.mem_singleton] at hx
        subst hx
        omega
      split at hf
      · rw [List.mem_singleton] at hf
        subst hf
        exact key _ rfl
      · split at hf
        · rw [List.mem_singleton] at hf
          subst hf
          exact key _ rfl
        · cases hf
  · obtain ⟨s, hs', rfl⟩ := List.mem_map.mp hf
    have := hs s hs'
    refine ⟨by simp [sumPs], fun x hx => ?_⟩
    simp [sumPs] at hx
    subst hx
    exact this
theorem facts_len (T : Folk) (n : Nat) (sd : List Said) (hn : n ≤ 40) (hr : ∀ f ∈ T, f.2.length = n) (hl : T.length ≤ 100) (hs : sd.length ≤ 1000) : (factsL T n sd).length ≤ 200000 := by
  have h1 := forcedL_len T n
  have h2 : n * n ≤ 40 * 40 := Nat.mul_le_mul hn hn
  have h3 : (T.flatMap threeL).length ≤ T.length * 1600 := by
    clear h1 hl
    induction T with
    | nil => simp
    | cons f T ih =>
      have i1 := ih fun f hf => hr f (List.mem_cons_of_mem _ hf)
      have i2 := threeL_len f
      rw [hr f (List.mem_cons_self ..)] at i2
      rw [List.flatMap_cons, List.length_append, List.length_cons, Nat.add_mul]
      omega
  unfold factsL
  rw [List.length_append, List.length_append, List.length_map]
  have : T.length * 1600 ≤ 100 * 1600 := Nat.mul_le_mul_right _ hl
  omega
/-- what looked answers, and what is kept -/
def lookP (T : Folk) (n : Nat) (sd : List Said) : PyData := match clashL T n with
  | some _ => clashR T n
  | none => match (runF [] 0 (factsL T n sd)).2 with
    | some md => oddD (factsL T n sd) md
    | none => .none
def lookK (T : Folk) (n : Nat) (sd : List Said) : List Sm := match clashL T n with
  | some _ => []
  | none => (runF [] 0 (factsL T n sd)).1
abbrev fs4 (g : List Int) (fk : Folk) (sd : List Said) (T : Folk) : List (Str × Sv) := [("base", .dat (rowD g)), ("folk", .dat (.list (fk.map fkD))), ("said", .dat (.list (sd.map saidD))), ("told", .dat (.list (T.map fkD)))]
abbrev fs6 (g : List Int) (fk : Folk) (sd : List Said) (T : Folk) (L : List (Nat × Nat)) : List (Str × Sv) := [("base", .dat (rowD g)), ("folk", .dat (.list (fk.map fkD))), ("said", .dat (.list (sd.map saidD))), ("told", .dat (.list (T.map fkD))), ("pairs", .dat (.list (L.map npD))), ("sums", .ref 1)]
abbrev J6 (g : List Int) (fk : Folk) (sd : List Said) (T : Folk) (L : List (Nat × Nat)) (K : List Sm) : PyData := .dict [(.none, .str "Joints"), (.str "base", rowD g), (.str "folk", .list (fk.map fkD)), (.str "said", .list (sd.map saidD)), (.str "told", .list (T.map fkD)), (.str "pairs", .list (L.map npD)), (.str "sums", suD K)]
theorem look6 {g : List Int} {fk T : Folk} {sd : List Said} {L : List (Nat × Nat)} : List.lookup ("sums" : Str) (fs6 g fk sd T L) = some (Sv.ref 1) := by
  rw [lookup_tl ne_base_sums, lookup_tl ne_folk_sums, lookup_tl ne_said_sums, lookup_tl ne_told_sums, lookup_tl ne_pairs_sums, lookup_hd]
theorem look6m {g : List Int} {fk T : Folk} {sd : List Said} {L : List (Nat × Nat)} : List.lookup ("looked" : Str) (fs6 g fk sd T L) = none := by
  rw [lookup_tl ne_base_looked, lookup_tl ne_folk_looked, lookup_tl ne_said_looked, lookup_tl ne_told_looked, lookup_tl ne_pairs_looked, lookup_tl ne_sums_looked]
  rfl
theorem resS_6 {g : List Int} {fk T : Folk} {sd : List Said} {L : List (Nat × Nat)} {K : List Sm} {b : Bool} {k : Nat} : resS b [⟨"Joints", fs6 g fk sd T L⟩, suC K] (k + 2) (.ref 0) = some (J6 g fk sd T L K) := by
  have h1 : resS b [⟨"Joints", fs6 g fk sd T L⟩, suC K] (k + 1) (.ref 1) = some (suD K) := by
    unfold resS
    simp only [List.getElem?_cons_succ, List.getElem?_cons_zero, resF, resS_dat, Option.bind_some]
  unfold resS
  simp only [List.getElem?_cons_zero, resF, resS_dat, Option.bind_some, h1]
theorem j6_told {g : List Int} {fk T : Folk} {sd : List Said} {L : List (Nat × Nat)} {K : List Sm} : gFld "Joints" "told" (J6 g fk sd T L K) = .ok (.dat (.list (T.map fkD))) :=
  gFld_of (by rw [getF_tl ne_base_told, getF_tl ne_folk_told, getF_tl ne_said_told, getF_hd])
theorem j6_base {g : List Int} {fk T : Folk} {sd : List Said} {L : List (Nat × Nat)} {K : List Sm} : gFld "Joints" "base" (J6 g fk sd T L K) = .ok (.dat (rowD g)) :=
  gFld_of (by rw [getF_hd])
theorem j6_said {g : List Int} {fk T : Folk} {sd : List Said} {L : List (Nat × Nat)} {K : List Sm} : gFld "Joints" "said" (J6 g fk sd T L K) = .ok (.dat (.list (sd.map saidD))) :=
  gFld_of (by rw [getF_tl ne_base_said, getF_tl ne_folk_said, getF_hd])
theorem enumD_zip (F : List Fact) : enumD (F.map factD) = (F.zipIdx 0).map fun p => PyData.tuple [nD p.2, factD p.1] := by
  unfold enumD
  refine List.ext_getElem (by simp) fun i h1 h2 => ?_
  simp
theorem looked_spec (g : List Int) (fk T : Folk) (sd : List Said) (L : List (Nat × Nat)) (n : Nat) (hg : g.length = n) (hn : n ≤ 40) (hr : ∀ f ∈ T, f.2.length = n ∧ mixR f.2) (hl : T.length ≤ 100) (hs : sd.length ≤ 1000) (hsd : ∀ s ∈ sd, SaidOk n s) :
    f2_Joints_looked [.ref 0] [⟨"Joints", fs6 g fk sd T L⟩, suC []] = .ok (.dat (lookP T n sd)) [⟨"Joints", fs6 g fk sd T L⟩, suC (lookK T n sd)] ∧ Red n (factsL T n sd).length (lookK T n sd) := by
  have c1 := clash_spec T n (by omega) hr (by omega)
  have f1 := facts_spec T n sd (by omega) hr (by omega) (by omega)
  have hF := facts_len T n sd hn (fun f hf => (hr f hf).1) hl hs
  have hok := facts_ok T n sd (fun f hf => (hr f hf).1) hsd
  have hrs : resS false [⟨"Joints", fs6 g fk sd T L⟩, suC []] 4 (.ref 0) = some (J6 g fk sd T L []) := resS_6
  have pe : ∀ x1 x2 : Option Sv, ∃ y1 y2, pubEnv false ⟨[some (.ref 0), x1, x2, none, none, none, none, none, none], [⟨"Joints", fs6 g fk sd T L⟩, suC []]⟩ = [some (.dat (J6 g fk sd T L [])), y1, y2, none, none, none, none, none, none] := by
    intro x1 x2
    refine ⟨resO false [⟨"Joints", fs6 g fk sd T L⟩, suC []] x1, resO false [⟨"Joints", fs6 g fk sd T L⟩, suC []] x2, ?_⟩
    have e0 : resO false [⟨"Joints", fs6 g fk sd T L⟩, suC []] (some (.ref 0)) = some (.dat (J6 g fk sd T L [])) := by
      unfold resO
      simp only [Option.bind_some, hrs, Option.map_some]
    have e1 : resO false [⟨"Joints", fs6 g fk sd T L⟩, suC []] none = none := rfl
    simp only [pubEnv, List.map_cons, List.map_nil, e0, e1]
  have s1 : o2Set 1 (pub false (eCall f_clash (aCons (eUn (gFld "Joints" "told") (eVar 0)) (aCons (eCall gLen (aCons (eUn (gFld "Joints" "base") (eVar 0)) aNil)) aNil)))) ⟨[some (.ref 0), none, none, none, none, none, none, none, none], [⟨"Joints", fs6 g fk sd T L⟩, suC []]⟩ = .nx ⟨[some (.ref 0), some (.dat (clashR T n)), none, none, none, none, none, none, none], [⟨"Joints", fs6 g fk sd T L⟩, suC []]⟩ := by
    refine (set2N (pubE (sl := .dat (clashR T n)) ?_ (okD_clash T n))).trans rfl
    obtain ⟨y1, y2, e⟩ := pe none none
    rw [e]
    simp only [eCall, eUn, aCons, aNil, eVar, List.getElem?_cons_zero, bindN_ok, Sl.d_dat, j6_told, j6_base, gLen_t, retI, List.length_map, hg]
    exact c1
  unfold f2_Joints_looked o2_Joints_looked lookP lookK
  cases hc : clashL T n with
  | some p =>
    refine ⟨fnE (s := ⟨[some (.ref 0), some (.dat (clashR T n)), none, none, none, none, none, none, none], [⟨"Joints", fs6 g fk sd T L⟩, suC []]⟩) rfl (seq2N s1 (seq2R (if2_t (liftTE (b := true) ?_) (ret2N (liftE (sl := .dat (clashR T n)) rfl))))), Red.nil _ _⟩
    unfold clashR
    rw [hc]
    rfl
  | none =>
    have hcn : clashR T n = .none := by
      unfold clashR
      rw [hc]
    rw [hcn] at s1
    have s2 : o2Set 2 (pub false (eCall f_facts_of (aCons (eUn (gFld "Joints" "told") (eVar 0)) (aCons (eUn (gFld "Joints" "said") (eVar 0)) aNil)))) ⟨[some (.ref 0), some (.dat .none), none, none, none, none, none, none, none], [⟨"Joints", fs6 g fk sd T L⟩, suC []]⟩ = .nx ⟨[some (.ref 0), some (.dat .none), some (.own (.list ((factsL T n sd).map factD))), none, none, none, none, none, none], [⟨"Joints", fs6 g fk sd T L⟩, suC []]⟩ := by
      refine (set2N (pubE (sl := .own (.list ((factsL T n sd).map factD))) ?_ (okD_facts _))).trans rfl
      obtain ⟨y1, y2, e⟩ := pe (some (.dat .none)) none
      rw [e]
      simp only [eCall, eUn, aCons, aNil, eVar, List.getElem?_cons_zero, bindN_ok, Sl.d_dat, j6_told, j6_said]
      exact f1
    generalize factsL T n sd = F at *
    have hit : liftI (iAr (aCons (eVar 2) aNil) enumOf) ⟨[some (.ref 0), some (.dat .none), some (.dat (.list (F.map factD))), none, none, none, none, none, none], [⟨"Joints", fs6 g fk sd T L⟩, suC []]⟩ = .ok ((F.zipIdx 0).map fun p => PyData.tuple [nD p.2, factD p.1]) ⟨[some (.ref 0), some (.dat .none), some (.dat (.list (F.map factD))), none, none, none, none, none, none], [⟨"Joints", fs6 g fk sd T L⟩, suC []]⟩ := by
      unfold liftI
      simp only [hide, hideS_d, hideS_r, hideS_n, List.map_cons, List.map_nil, iAr, aCons, aNil, eVar, List.getElem?_cons_zero, List.getElem?_cons_succ, bindN_ok, Sl.d_dat, enumOf_l, enumD_zip]
    have hfor : ∀ o : O2, o2For bdL boL ((F.zipIdx 0).map fun p => PyData.tuple [nD p.2, factD p.1]) ⟨[some (.ref 0), some (.dat .none), some (.dat (.list (F.map factD))), none, none, none, none, none, none], [⟨"Joints", fs6 g fk sd T L⟩, suC []]⟩ = o → o2Fix [2] (o2ForE (liftI (iAr (aCons (eVar 2) aNil) enumOf)) bdL boL) ⟨[some (.ref 0), some (.dat .none), some (.own (.list (F.map factD))), none, none, none, none, none, none], [⟨"Joints", fs6 g fk sd T L⟩, suC []]⟩ = o := by
      intro o h
      show o2ForE (liftI (iAr (aCons (eVar 2) aNil) enumOf)) bdL boL ⟨[some (.ref 0), some (.dat .none), some (.dat (.list (F.map factD))), none, none, none, none, none, none], [⟨"Joints", fs6 g fk sd T L⟩, suC []]⟩ = o
      unfold o2ForE
      rw [hit]
      exact h
    rcases loop_L n (by omega) F hF hok (fs6 g fk sd T L) look6 (some (.dat .none)) F [] [] none none none none none rfl (Red.nil _ _) (Nat.le_refl _) with ⟨K', r1, r2, y3, y4, y5, y6, y7, r3⟩ | ⟨K', md, r1, r2, r4, ρ, r3⟩
    · have r1 : runF [] 0 F = (K', none) := r1
      rw [r1]
      exact ⟨fnE (s := ⟨[some (.ref 0), some (.dat .none), some (.dat (.list (F.map factD))), y3, y4, y5, y6, y7, none], [⟨"Joints", fs6 g fk sd T L⟩, suC K']⟩) rfl (seq2N s1 (seq2N (if2_f (liftTE (b := false) rfl) rfl) (seq2N s2 (seq2N (hfor _ r3) (ret2N (liftE (sl := .dat .none) rfl)))))), r2⟩
    · have r1 : runF [] 0 F = (K', some md) := r1
      rw [r1]
      exact ⟨fnE (s := ⟨ρ, [⟨"Joints", fs6 g fk sd T L⟩, suC K']⟩) rfl (seq2N s1 (seq2N (if2_f (liftTE (b := false) rfl) rfl) (seq2N s2 (seq2R (hfor _ r3))))), r2⟩
end Dl
/-! Joints(..). -/
namespace Dl
open PySem PySem.Spec PyProof.Rows L2
theorem fld2B {x n : Str} {i k : Nat} {f : S2 → M2 Sv} {s s1 : S2} {sv : Sv} {fs : List (Str × Sv)} (h : f s = .ok sv s1) (h1 : s1.ρ[i]? = some (some (.ref k))) (h2 : s1.C[k]? = some ⟨x, fs⟩) (h4 : Nat.ble fs.length 999 = true) : o2Fld x i n f s = .nx ⟨s1.ρ, s1.C.set k ⟨x, putS n sv fs⟩⟩ :=
  fld2N (c := ⟨x, fs⟩) h h1 h2 rfl (Nat.lt_succ_of_le (Nat.le_of_ble_eq_true h4))
abbrev fs5 (g : List Int) (fk : Folk) (sd : List Said) (T : Folk) (L : List (Nat × Nat)) : List (Str × Sv) := [("base", .dat (rowD g)), ("folk", .dat (.list (fk.map fkD))), ("said", .dat (.list (sd.map saidD))), ("told", .dat (.list (T.map fkD))), ("pairs", .dat (.list (L.map npD)))]
abbrev fs7 (g : List Int) (fk : Folk) (sd : List Said) (T : Folk) (L : List (Nat × Nat)) (pp : PyData) : List (Str × Sv) := [("base", .dat (rowD g)), ("folk", .dat (.list (fk.map fkD))), ("said", .dat (.list (sd.map saidD))), ("told", .dat (.list (T.map fkD))), ("pairs", .dat (.list (L.map npD))), ("sums", .ref 1), ("paper", .dat pp)]
def toldOf (g : List Int) (fk : Folk) : Folk := fk.map fun f => (f.1, ag f.2 g)
theorem told_ok {g : List Int} {fk : Folk} (hg : plainR g) (h : ∀ f ∈ fk, f.2.length = g.length ∧ mixR f.2) : ∀ f ∈ toldOf g fk, f.2.length = g.length ∧ mixR f.2 := by
  intro f hf
  obtain ⟨q, hq, rfl⟩ := List.mem_map.mp hf
  obtain ⟨h1, h2⟩ := h q hq
  refine ⟨?_, fun x hx => ?_⟩
  · show (ag q.2 g).length = _
    unfold ag
    rw [List.length_map, List.length_zip]
    omega
  · obtain ⟨p, hp, rfl⟩ := List.mem_map.mp hx
    have m := h2 p.1 (List.of_mem_zip hp).1
    unfold agM
    split <;> omega
abbrev jsD (g : List Int) (fk : Folk) (sd : List Said) (T : Folk) (L : List (Nat × Nat)) (K : List Sm) (pp : PyData) : PyData := .dict [(.none, .str "Joints"), (.str "base", rowD g), (.str "folk", .list (fk.map fkD)), (.str "said", .list (sd.map saidD)), (.str "told", .list (T.map fkD)), (.str "pairs", .list (L.map npD)), (.str "sums", suD K), (.str "paper", pp)]
/-- the instance that Joints(g, fk, sd) makes -/
def joD (g : List Int) (fk : Folk) (sd : List Said) : PyData :=
  jsD g fk sd (toldOf g fk) (liveL ((toldOf g fk).map (·.2)) g.length) (lookK (toldOf g fk) g.length sd) (lookP (toldOf g fk) g.length sd)
theorem sums_new (C : Store) (n : Nat) (h : C[n]? = some ⟨"Sums", []⟩) : f2_Sums_init__ [.ref n] C = .ok (.dat .none) (C.set n (suC [])) := by
  unfold f2_Sums_init__ o2_Sums_init__
  refine (fnE0 (s := ⟨[some (.ref n)], C.set n (suC [])⟩) rfl ?_)
  exact (fld2B (s1 := ⟨[some (.ref n)], C⟩) (fz2E (liftE (sl := .own (.list [])) rfl)) rfl h rfl).trans rfl
theorem resS_4 {g : List Int} {fk T : Folk} {sd : List Said} {b : Bool} {k : Nat} : resS b [⟨"Joints", fs4 g fk sd T⟩] (k + 1) (.ref 0) = some (.dict [(.none, .str "Joints"), (.str "base", rowD g), (.str "folk", .list (fk.map fkD)), (.str "said", .list (sd.map saidD)), (.str "told", .list (T.map fkD))]) := by
  unfold resS
  simp only [List.getElem?_cons_zero, resF, resS_dat, Option.bind_some]
theorem joints_new (g : List Int) (fk : Folk) (sd : List Said) (hg : plainR g) (hn : g.length ≤ 40) (hr : ∀ f ∈ fk, f.2.length = g.length ∧ mixR f.2) (hl : fk.length ≤ 100) (hs : sd.length ≤ 1000) (hsd : ∀ s ∈ sd, SaidOk g.length s) :
    gNew "Joints" f2_Joints_init__ [rowD g, .list (fk.map fkD), .list (sd.map saidD)] = .ok (.dat (joD g fk sd)) ∧ Red g.length (factsL (toldOf g fk) g.length sd).length (lookK (toldOf g fk) g.length sd) := by
  have hT := told_ok hg hr
  have hTl : (toldOf g fk).length ≤ 100 := by
    unfold toldOf
    rw [List.length_map]
    exact hl
  have lk := fun L => looked_spec g fk (toldOf g fk) sd L g.length rfl hn hT hTl hs hsd
  have lv := live_spec (toldOf g fk) g.length (by omega) fun f hf => (hT f hf).1
  refine ⟨?_, (lk []).2⟩
  have lc := lcF_map (bd := bTup 2 (bCons (bN 4) (bCons (bN 5) bNil))) (fe := eTup (aCons (eVar 4) (aCons (eCall f_against (aCons (eVar 5) (aCons (eVar 1) aNil))) aNil))) (ρ := [none, some (.dat (rowD g)), some (.dat (.list (fk.map fkD))), some (.dat (.list (sd.map saidD))), none, none]) (e := fkD) (fun f => fkD (f.1, ag f.2 g)) fk fun f hf => by
    have h := against_spec f.2 g (by have := (hr f hf).1; omega)
    refine ⟨_, rfl, .dat (fkD (f.1, ag f.2 g)), ?_, rfl⟩
    simp only [eTup, aCons, aNil, eCall, eVar, List.getElem?_cons_zero, List.getElem?_cons_succ, List.set_cons_zero, List.set_cons_succ, bindN_ok, Sl.d_dat, h, List.length_cons, List.length_nil, big, Nat.reduceAdd, Nat.reduceLeDiff, decide_true, if_true]
  have hm : fk.map (fun f => fkD (f.1, ag f.2 g)) = (toldOf g fk).map fkD := by
    unfold toldOf
    rw [List.map_map]
    rfl
  rw [hm] at lc
  unfold joD
  generalize toldOf g fk = T at *
  generalize hL : liveL (T.map (·.2)) g.length = L at *
  have ini : f2_Joints_init__ [.ref 0, .dat (rowD g), .dat (.list (fk.map fkD)), .dat (.list (sd.map saidD))] [⟨"Joints", []⟩] = .ok (.dat .none) [⟨"Joints", fs7 g fk sd T L (lookP T g.length sd)⟩, suC (lookK T g.length sd)] := by
    unfold f2_Joints_init__ o2_Joints_init__
    refine (fnE0 (s := ⟨[some (.ref 0), some (.dat (rowD g)), some (.dat (.list (fk.map fkD))), some (.dat (.list (sd.map saidD))), none, none], [⟨"Joints", fs7 g fk sd T L (lookP T g.length sd)⟩, suC (lookK T g.length sd)]⟩) rfl ?_)
    show o2Seq _ _ ⟨[some (.ref 0), some (.dat (rowD g)), some (.dat (.list (fk.map fkD))), some (.dat (.list (sd.map saidD))), none, none], [⟨"Joints", []⟩]⟩ = _
    refine seq2N (s' := ⟨[some (.ref 0), some (.dat (rowD g)), some (.dat (.list (fk.map fkD))), some (.dat (.list (sd.map saidD))), none, none], [⟨"Joints", [("base", .dat (rowD g))]⟩]⟩) ((fld2B (fz2E (liftE (sl := .dat (rowD g)) rfl)) rfl rfl rfl).trans ?_) ?_
    · simp only [putS_nil]
      rfl
    refine seq2N (s' := ⟨[some (.ref 0), some (.dat (rowD g)), some (.dat (.list (fk.map fkD))), some (.dat (.list (sd.map saidD))), none, none], [⟨"Joints", [("base", .dat (rowD g)), ("folk", .dat (.list (fk.map fkD)))]⟩]⟩) ((fld2B (fz2E (liftE (sl := .dat (.list (fk.map fkD))) rfl)) rfl rfl rfl).trans ?_) ?_
    · simp only [putS_tl ne_base_folk, putS_nil]
      rfl
    refine seq2N (s' := ⟨[some (.ref 0), some (.dat (rowD g)), some (.dat (.list (fk.map fkD))), some (.dat (.list (sd.map saidD))), none, none], [⟨"Joints", [("base", .dat (rowD g)), ("folk", .dat (.list (fk.map fkD))), ("said", .dat (.list (sd.map saidD)))]⟩]⟩) ((fld2B (fz2E (liftE (sl := .dat (.list (sd.map saidD))) rfl)) rfl rfl rfl).trans ?_) ?_
    · simp only [putS_tl ne_base_said, putS_tl ne_folk_said, putS_nil]
      rfl
    refine seq2N (s' := ⟨[some (.ref 0), some (.dat (rowD g)), some (.dat (.list (fk.map fkD))), some (.dat (.list (sd.map saidD))), none, none], [⟨"Joints", fs4 g fk sd T⟩]⟩) ((fld2B (fz2E (liftE (sl := .own (.list (T.map fkD))) ?_)) rfl rfl rfl).trans ?_) ?_
    · have hb : big (T.map fkD).length = true := decide_eq_true (by rw [List.length_map]; omega)
      simp only [hide, hideS_d, hideS_r, hideS_n, List.map_cons, List.map_nil, eLc, iOf, eVar, List.getElem?_cons_zero, List.getElem?_cons_succ, bindN_ok, Sl.d_dat, itemsD, wipeE, List.set_cons_zero, List.set_cons_succ, lc, hb, if_true]
    · simp only [putS_tl ne_base_told, putS_tl ne_folk_told, putS_tl ne_said_told, putS_nil]
      rfl
    refine seq2N (s' := ⟨[some (.ref 0), some (.dat (rowD g)), some (.dat (.list (fk.map fkD))), some (.dat (.list (sd.map saidD))), none, none], [⟨"Joints", fs5 g fk sd T L⟩]⟩) ((fld2B (fz2E (pubE (sl := .own (.list (L.map npD))) ?_ ?_)) rfl rfl rfl).trans ?_) ?_
    · have e0 : resO false [⟨"Joints", fs4 g fk sd T⟩] (some (.ref 0)) = some (.dat (.dict [(.none, .str "Joints"), (.str "base", rowD g), (.str "folk", .list (fk.map fkD)), (.str "said", .list (sd.map saidD)), (.str "told", .list (T.map fkD))])) := by
        have : resS false [⟨"Joints", fs4 g fk sd T⟩] 4 (.ref 0) = _ := resS_4
        unfold resO
        simp only [Option.bind_some, this, Option.map_some]
      have e1 : gFld "Joints" "told" (.dict [(.none, .str "Joints"), (.str "base", rowD g), (.str "folk", .list (fk.map fkD)), (.str "said", .list (sd.map saidD)), (.str "told", .list (T.map fkD))]) = .ok (.dat (.list (T.map fkD))) :=
        gFld_of (by rw [getF_tl ne_base_told, getF_tl ne_folk_told, getF_tl ne_said_told, getF_hd])
      simp only [pubEnv, List.map_cons, List.map_nil, e0, eCall, eUn, aCons, aNil, eVar, List.getElem?_cons_zero, bindN_ok, Sl.d_dat, e1]
      exact lv
    · exact okDA_all fun x hx => by
        obtain ⟨p, _, rfl⟩ := List.mem_map.mp hx
        rfl
    · simp only [putS_tl ne_base_pairs, putS_tl ne_folk_pairs, putS_tl ne_said_pairs, putS_tl ne_told_pairs, putS_nil]
      rfl
    refine seq2N (s' := ⟨[some (.ref 0), some (.dat (rowD g)), some (.dat (.list (fk.map fkD))), some (.dat (.list (sd.map saidD))), none, none], [⟨"Joints", fs6 g fk sd T L⟩, suC []]⟩) ((fld2B (s1 := ⟨[some (.ref 0), some (.dat (rowD g)), some (.dat (.list (fk.map fkD))), some (.dat (.list (sd.map saidD))), none, none], [⟨"Joints", fs5 g fk sd T L⟩, suC []]⟩) (fz2E (sv := .ref 1) ?_) rfl rfl rfl).trans ?_) ?_
    · have := sums_new [⟨"Joints", fs5 g fk sd T L⟩, ⟨"Sums", []⟩] 1 rfl
      unfold mk2
      simp only [nil2, bind2_ok]
      show newF 1 (f2_Sums_init__ [.ref 1] [⟨"Joints", fs5 g fk sd T L⟩, ⟨"Sums", []⟩]) _ = _
      rw [this]
      rfl
    · simp only [List.cons_append, List.nil_append, putS_tl ne_base_sums, putS_tl ne_folk_sums, putS_tl ne_said_sums, putS_tl ne_told_sums, putS_tl ne_pairs_sums, putS_nil, Sv.arg]
      rfl
    refine (fld2B (s1 := ⟨[some (.ref 0), some (.dat (rowD g)), some (.dat (.list (fk.map fkD))), some (.dat (.list (sd.map saidD))), none, none], [⟨"Joints", fs6 g fk sd T L⟩, suC (lookK T g.length sd)]⟩) (fz2E (sv := .dat (lookP T g.length sd)) ?_) rfl rfl rfl).trans ?_
    · have h1 := (lk L).1
      unfold methS2
      have h2 : eRef 0 ⟨[some (.ref 0), some (.dat (rowD g)), some (.dat (.list (fk.map fkD))), some (.dat (.list (sd.map saidD))), none, none], [⟨"Joints", fs6 g fk sd T L⟩, suC []]⟩ = .ok (.ref 0) ⟨[some (.ref 0), some (.dat (rowD g)), some (.dat (.list (fk.map fkD))), some (.dat (.list (sd.map saidD))), none, none], [⟨"Joints", fs6 g fk sd T L⟩, suC []]⟩ := rfl
      rw [h2]
      simp only [bind2_ok, List.getElem?_cons_zero, look6m, and_self, if_true, nil2]
      rw [h1]
      rfl
    · simp only [putS_tl ne_base_paper, putS_tl ne_folk_paper, putS_tl ne_said_paper, putS_tl ne_told_paper, putS_tl ne_pairs_paper, putS_tl ne_sums_paper, putS_nil, Sv.arg]
      rfl
  have hres : resS true [⟨"Joints", fs7 g fk sd T L (lookP T g.length sd)⟩, suC (lookK T g.length sd)] 6 (.ref 0) = some (jsD g fk sd T L (lookK T g.length sd) (lookP T g.length sd)) := by
    have h1 : resS true [⟨"Joints", fs7 g fk sd T L (lookP T g.length sd)⟩, suC (lookK T g.length sd)] 5 (.ref 1) = some (suD (lookK T g.length sd)) := by
      unfold resS
      simp only [List.getElem?_cons_succ, List.getElem?_cons_zero, resF, resS_dat, Option.bind_some]
    unfold resS
    simp only [List.getElem?_cons_zero, List.cons_append, List.nil_append, resF, resS_dat, Option.bind_some, h1]
  unfold gNew
  simp only [List.map_cons, List.map_nil]
  rw [ini]
  simp only [hres]
end Dl
/-! a company of the laws. -/
namespace Dl
open PySem PySem.Spec PyProof.Rows L2
abbrev abc : Str := "abcdefghijklmnopqrstuvwxyz"
theorem abc_len : abc.cps.toList.length = 26 := by decide +kernel
theorem abc_big : big abc.length = true := by decide +kernel
def SOk (s : Str) : Prop := ∀ c ∈ s.cps.toList, c < 1114112
theorem SOk.ok {s : Str} (h : SOk s) : PyData.strOk s = true := by
  unfold PyData.strOk
  rw [Array.all_eq_true_iff_forall_mem]
  exact fun x hx => decide_eq_true (h x (Array.mem_toList_iff.mpr hx))
theorem SOk.one {c : Nat} (h : c < 1114112) : SOk ⟨#[c]⟩ := by
  intro d hd
  simp at hd
  omega
theorem SOk.app {a b : Str} (h : SOk a) (k : SOk b) : SOk (a ++ b) := by
  intro c hc
  have hc : c ∈ (a.cps ++ b.cps).toList := hc
  rw [Array.toList_append, List.mem_append] at hc
  exact hc.elim (h c) (k c)
theorem SOk.cut {a : Str} {lo hi : Option Int} (h : SOk a) : SOk (cutS a lo hi) := by
  intro c hc
  unfold cutS at hc
  exact h c (List.mem_of_mem_drop (List.mem_of_mem_take hc))
theorem fold_mem {P : Nat → Prop} {x : Array Nat} (h : ∀ d ∈ x.toList, P d) : ∀ (k : Nat) (acc : Array Nat), (∀ d ∈ acc.toList, P d) → ∀ d ∈ ((List.replicate k x).foldl (· ++ ·) acc).toList, P d
  | 0, acc, ha => ha
  | k + 1, acc, ha => by
    rw [List.replicate_succ, List.foldl_cons]
    refine fold_mem h k (acc ++ x) fun d hd => ?_
    rw [Array.toList_append, List.mem_append] at hd
    exact hd.elim (ha d) (h d)
theorem SOk.mul {a : Str} {n : Int} (h : SOk a) : SOk (Txt.mul a n) := by
  unfold Txt.mul
  split
  · intro c hc
    cases hc
  · split
    · exact h
    · exact fold_mem h _ #[] (fun d hd => by cases hd)
theorem abc_ok : SOk abc := by
  have : abc.cps.toList.all (fun c => decide (c < 1114112)) = true := by decide +kernel
  exact fun c hc => of_decide_eq_true (List.all_eq_true.mp this c hc)
theorem abc_ix (i : Int) (h : 0 ≤ i ∧ i < 26) : ∃ c, c < 1114112 ∧ gIx (.str abc) (.int i) = .ok (.dat (.str ⟨#[c]⟩)) := by
  have hl : i.toNat < abc.cps.toList.length := by rw [abc_len]; omega
  refine ⟨abc.cps.toList[i.toNat], abc_ok _ (List.getElem_mem _), ?_⟩
  have : atI abc.cps.toList i = some (abc.cps.toList[i.toNat]) := by
    unfold atI ixN
    rw [if_pos h.1, if_pos (by rw [abc_len]; omega)]
    show abc.cps.toList[i.toNat]? = _
    exact List.getElem?_eq_getElem hl
  show (if big abc.length = true then (match atI abc.cps.toList i with
    | some c => retS ⟨#[c]⟩
    | none => Dl.M.stuck) else Dl.M.stuck) = _
  rw [if_pos abc_big, this]
theorem mul_one (c : Nat) (n : Int) (h : 0 ≤ n ∧ n ≤ 100) : ∃ s : Str, s = Txt.mul ⟨#[c]⟩ n ∧ s.length ≤ 100 ∧ gMul (.str ⟨#[c]⟩) (.int n) = .ok (.dat (.str s)) := by
  refine ⟨Txt.mul ⟨#[c]⟩ n, rfl, ?_, if_pos ⟨Nat.le_of_ble_eq_true rfl, h.1, by omega⟩⟩
  have := len_mul ⟨#[c]⟩ n
  rw [decide_eq_false (by omega), if_neg (by decide)] at this
  have h1 : (Str.length ⟨#[c]⟩ : Int) = 1 := rfl
  rw [h1] at this
  omega
theorem gAdd_ss {a b : Str} (h : a.length + b.length ≤ 16777216) : gAdd (.str a) (.str b) = .ok (.dat (.str (a ++ b))) := if_pos (big_lt h)
theorem gSl_s {z : Str} {lo hi : Option Int} (h : z.length ≤ 16777216) : gSl (.str z) lo hi = .ok (.dat (.str (cutS z lo hi))) := if_pos (big_lt h)
theorem cutS_len (z : Str) (lo hi : Option Int) : (cutS z lo hi).length ≤ z.length := by
  unfold cutS
  show (List.toArray _).size ≤ z.cps.size
  rw [List.size_toArray, List.length_take, List.length_drop, Array.length_toList]
  omega
theorem app_len (a b : Str) : (a ++ b).length = a.length + b.length := by
  show (a.cps ++ b.cps).size = _
  exact Array.size_append
theorem one_len (c : Nat) : Str.length ⟨#[c]⟩ = 1 := rfl
theorem name_ex (c k : Int) : ∃ s : Str, (SOk s ∧ s.length ≤ 1000) ∧ f_law_name [.int c, .int k] = .ok (.dat (.str s)) := by
  by_cases h : c % 2 = 0
  · obtain ⟨ch, o1, e1⟩ := abc_ix (c / 2 % 26) (by omega)
    obtain ⟨s, es, e0, e2⟩ := mul_one ch (1 + (7 * k + c / 52) % 12) (by omega)
    refine ⟨s, ⟨by rw [es]; exact (SOk.one o1).mul, by omega⟩, ?_⟩
    clear es
    unfold f_law_name o_law_name
    refine fnO_rt rfl ?_
    refine seqN (by walk_at "ev"; rfl) ?_
    refine seqR (ifN_t (by walk_at "evs") ?_)
    clear e0
    walk_at "evs"
  · obtain ⟨ch, o1, e1⟩ := abc_ix (c / 24 % 26) (by omega)
    have hz : 0 < 1 + c / 2 % 12 := by omega
    obtain ⟨s, es, e0, e2⟩ := mul_one ch (1 + c / 2 % 12) (by omega)
    have so : SOk s := by rw [es]; exact (SOk.one o1).mul
    clear es
    obtain ⟨sg, o2, e3⟩ := abc_ix ((c / 7488 + 5 * k) % 26) (by omega)
    have hz2 : 1 + c / 2 % 12 < 18446744073709551616 := by omega
    generalize hat : c / 624 % (1 + c / 2 % 12) = at'
    have b1 := cutS_len s none (some at')
    have b2 := cutS_len s (some (at' + 1)) none
    have g1 := gSl_s (z := s) (lo := none) (hi := some at') (by omega)
    have g2 := gSl_s (z := s) (lo := some (at' + 1)) (hi := none) (by omega)
    have g3 := gAdd_ss (a := cutS s none (some at')) (b := ⟨#[sg]⟩) (by rw [one_len]; omega)
    have g4 := gAdd_ss (a := cutS s none (some at') ++ ⟨#[sg]⟩) (b := cutS s (some (at' + 1)) none) (by rw [app_len, one_len]; omega)
    refine ⟨(cutS s none (some at') ++ ⟨#[sg]⟩) ++ cutS s (some (at' + 1)) none, ⟨((so.cut).app (SOk.one o2)).app so.cut, by rw [app_len, app_len, one_len]; omega⟩, ?_⟩
    clear so o1 o2
    unfold f_law_name o_law_name
    refine fnO_rt rfl ?_
    refine seqN (by walk_at "ev"; rfl) ?_
    refine seqN (ifN_f (by clear b1 b2 g1 g2 g3 g4; walk_at "evs") rfl) ?_
    clear b1 b2 e0
    walk_at "st"
    walk_at "st"
    walk_at "st"
    walk_at "st"
    walk_at "evs"
/-- the name that the laws give -/
noncomputable def nameS (c k : Int) : Str := Classical.choose (name_ex c k)
theorem name_spec (c k : Int) : f_law_name [.int c, .int k] = .ok (.dat (.str (nameS c k))) := (Classical.choose_spec (name_ex c k)).2
theorem name_ok (c k : Int) : SOk (nameS c k) := (Classical.choose_spec (name_ex c k)).1.1
end Dl
/-! a company of the laws: spoilt, true, company. -/
namespace Dl
open PySem PySem.Spec PyProof.Rows L2
theorem setI_ints (l : List Int) (i : Nat) (v : Int) (h : i < l.length) : setI (l.map PyData.int) (nD i) (.int v) = some ((l.set i v).map PyData.int) := by
  unfold setI ixN
  simp only
  rw [if_pos (by omega), if_pos (by rw [List.length_map]; omega), Int.toNat_natCast, List.map_set]
abbrev spoB : Env → O := (oSeq (oFix [8] (oSet 10 (eOp gMod (eOp gIx (eVar 8) (eVar 9)) (eC (.int 12)))))
    (oIf (tOrF (tAndF (tOf (eOp gEq (eVar 4) (eC (.int 2)))) (tOf (eOp (gCmp .Gt) (eVar 10) (eC (.int 3))))) (tAndF (tOf (eOp gEq (eVar 4) (eC (.int 1)))) (tOf (eOp gEq (eVar 10) (eC (.int 0)))))) (oFix [8] (oSetIx 7 (eOp gDiv (eOp gIx (eVar 8) (eVar 9)) (eC (.int 12))) (eVar 9))) oNx))
theorem spoil_row (x0 x1 x2 x3 x5 x6 x9 x10 : Option Sl) (kd : Int) (n : Nat) (r st : List Int) (hr : r.length = n) (mr : mixR r) (hs : st.length = n) (ms : ∀ x ∈ st, 0 ≤ x ∧ x < 36) :
    ∃ (r' : List Int) (x8 x9' x10' : Option Sl), r'.length = n ∧ mixR r' ∧ (kd = 0 → r' = r) ∧
      oFor (bN 9) spoB ((List.range n).map nD) [x0, x1, x2, x3, some (.dat (.int kd)), x5, x6, some (.own (.list (r.map PyData.int))), some (.own (.list (st.map PyData.int))), x9, x10] =
        .nx [x0, x1, x2, x3, some (.dat (.int kd)), x5, x6, some (.own (.list (r'.map PyData.int))), x8, x9', x10'] := by
  obtain ⟨ρ', k1, r', x8, y9, y10, c1, c2, c3, c4, rfl⟩ := oFor_pre (bd := bN 9) (body := spoB) (e := nD)
    (fun pre ρ => ∃ (r' : List Int) (x8 y9 y10 : Option Sl), r'.length = n ∧ mixR r' ∧ (kd = 0 → r' = r) ∧ (x8 = some (.own (.list (st.map PyData.int))) ∨ x8 = some (.dat (.list (st.map PyData.int)))) ∧ ρ = [x0, x1, x2, x3, some (.dat (.int kd)), x5, x6, some (.own (.list (r'.map PyData.int))), x8, y9, y10]) (List.range n)
    [x0, x1, x2, x3, some (.dat (.int kd)), x5, x6, some (.own (.list (r.map PyData.int))), some (.own (.list (st.map PyData.int))), x9, x10] ⟨r, _, x9, x10, hr, mr, fun _ => rfl, .inl rfl, rfl⟩ fun pre i post ρ hl hp => by
      obtain ⟨r', x8, y9, y10, c1, c2, c3, c4, rfl⟩ := hp
      have hi : i < n := List.mem_range.mp (by rw [hl]; simp)
      have g0 := gIx_l (atI_map (xs := st) (k := i) (by omega) (by omega))
      rw [Int.toNat_natCast] at g0
      have my : 0 ≤ st.getD i 0 ∧ st.getD i 0 < 36 := ms _ (by rw [List.getD_eq_getElem?_getD, List.getElem?_eq_getElem (by omega)]; exact List.getElem_mem _)
      generalize st.getD i 0 = y at g0 my
      have hset := setI_ints r' i (y / 12) (by omega)
      have s1 : ∀ x8, (x8 = some (.own (.list (st.map PyData.int))) ∨ x8 = some (.dat (.list (st.map PyData.int)))) → (oFix [8] (oSet 10 (eOp gMod (eOp gIx (eVar 8) (eVar 9)) (eC (.int 12))))) [x0, x1, x2, x3, some (.dat (.int kd)), x5, x6, some (.own (.list (r'.map PyData.int))), x8, some (.dat (nD i)), y10] = .nx [x0, x1, x2, x3, some (.dat (.int kd)), x5, x6, some (.own (.list (r'.map PyData.int))), some (.dat (.list (st.map PyData.int))), some (.dat (nD i)), some (.dat (.int (y % 12)))] := by
        clear hset c1 c2 c3 c4 hl hr mr hs ms my hi
        rintro _ (rfl | rfl)
        · refine fixN ?_
          walk_at "evs"
        · refine fixN ?_
          walk_at "evs"
      have tt : ∃ b, (tOrF (tAndF (tOf (eOp gEq (eVar 4) (eC (.int 2)))) (tOf (eOp (gCmp .Gt) (eVar 10) (eC (.int 3))))) (tAndF (tOf (eOp gEq (eVar 4) (eC (.int 1)))) (tOf (eOp gEq (eVar 10) (eC (.int 0)))))) [x0, x1, x2, x3, some (.dat (.int kd)), x5, x6, some (.own (.list (r'.map PyData.int))), some (.dat (.list (st.map PyData.int))), some (.dat (nD i)), some (.dat (.int (y % 12)))] = .ok b ∧ (kd = 0 → b = false) := by
        clear hset c1 c2 c3 c4 hl hr mr hs ms my hi s1 g0
        by_cases h2 : kd = 2
        · subst h2
          by_cases h3 : y % 12 > 3
          · exact ⟨true, by walk_at "evs", fun z => by omega⟩
          · exact ⟨false, by walk_at "evs", fun z => rfl⟩
        · by_cases h1 : kd = 1
          · subst h1
            by_cases h0 : y % 12 = 0
            · exact ⟨true, by walk_at "evs", fun z => by omega⟩
            · exact ⟨false, by walk_at "evs", fun z => rfl⟩
          · exact ⟨false, by walk_at "evs", fun z => rfl⟩
      obtain ⟨b, t1, t2⟩ := tt
      cases b with
      | false => exact ⟨[x0, x1, x2, x3, some (.dat (.int kd)), x5, x6, some (.own (.list (r'.map PyData.int))), x8, some (.dat (nD i)), y10], _, rfl, .inl (seqN (s1 x8 c4) (ifN_f t1 rfl)), r', _, _, _, c1, c2, c3, .inr rfl, rfl⟩
      | true =>
        refine ⟨[x0, x1, x2, x3, some (.dat (.int kd)), x5, x6, some (.own (.list (r'.map PyData.int))), x8, some (.dat (nD i)), y10], [x0, x1, x2, x3, some (.dat (.int kd)), x5, x6, some (.own (.list ((r'.set i (y / 12)).map PyData.int))), some (.dat (.list (st.map PyData.int))), some (.dat (nD i)), some (.dat (.int (y % 12)))], rfl, .inl (seqN (s1 x8 c4) (ifN_t t1 ?g1)), r'.set i (y / 12), _, _, _, by rw [List.length_set]; exact c1, ?g2, (fun z => by cases t2 z), .inr rfl, rfl⟩
        case g1 =>
          clear c1 c2 c3 c4 hl hr mr hs ms my hi s1 t1 t2
          refine fixN ?_
          simp only [fixs, Env.fix, List.getElem?_cons_zero, List.getElem?_cons_succ, fixS_dat, List.set_cons_zero, List.set_cons_succ]
          simp only [oSetIx, eOp, eVar, eC, List.getElem?_cons_zero, List.getElem?_cons_succ, bindN_ok, Sl.d_dat, g0, gDiv_ii (show (0 : Int) < 12 by decide) (show (12 : Int) < 18446744073709551616 by decide), retI, oOfN_ok, hset, List.set_cons_zero, List.set_cons_succ]
        case g2 =>
          intro x hx
          rcases List.mem_or_eq_of_mem_set hx with hx | hx
          · exact c2 x hx
          · subst hx
            omega
  exact ⟨r', x8, y9, y10, c1, c2, c3, k1⟩
theorem spoilt_spec (S : List (List Int)) (ns : List Int) (a : Int) (n : Nat) (ha : 0 ≤ a) (hn : n ≤ 1000) (hS : ∀ r ∈ S, r.length = n ∧ mixR r) (hl : S.length ≤ 1000) :
    ∃ S' : List (List Int), S'.length = S.length ∧ (∀ r ∈ S', r.length = n ∧ mixR r) ∧ (cellAt ns (a + 4).toNat % 3 = 0 → S' = S) ∧ f_law_spoilt [.list (S.map rowD), scr ns, .int a] = .ok (.own (.list (S'.map rowD))) := by
  have q0 := cell_spec ns (a + 4) (by omega)
  generalize cellAt ns (a + 4).toNat = c at q0
  obtain ⟨ρ', k1, S', x6, x7, x8, x9, x10, c1, c2, c3, rfl⟩ := oFor_pre (bd := bN 6) (body := (oSeq (oSet 7 (eCall gList (aCons (eOp gIx (eVar 0) (eVar 6)) aNil)))
    (oSeq (oSet 8 (ePub (eCall f_law_row (aCons (eOp gAdd (eOp gDiv (eVar 3) (eC (.int 3))) (eOp gMul (eC (.int 31)) (eVar 6))) (aCons (eCall gLen (aCons (eVar 7) aNil)) (aCons (eC (.int 36)) aNil))))))
    (oSeq (oForE (iAr (aCons (ePub (eCall gLen (aCons (eVar 7) aNil))) aNil) rng1Of) (bN 9) spoB)
    (oFix [7] (oMutS (mMut 5 gAppend (aCons (eCall gTuple (aCons (eVar 7) aNil)) aNil)))))))) (e := nD)
    (fun pre ρ => ∃ (S' : List (List Int)) (x6 x7 x8 x9 x10 : Option Sl), S'.length = pre.length ∧ (∀ r ∈ S', r.length = n ∧ mixR r) ∧ (c % 3 = 0 → S' = pre.map fun k => S.getD k []) ∧ ρ = [some (.dat (.list (S.map rowD))), some (.dat (scr ns)), some (.dat (.int a)), some (.dat (.int c)), some (.dat (.int (c % 3))), some (.own (.list (S'.map rowD))), x6, x7, x8, x9, x10]) (List.range S.length)
    [some (.dat (.list (S.map rowD))), some (.dat (scr ns)), some (.dat (.int a)), some (.dat (.int c)), some (.dat (.int (c % 3))), some (.own (.list [])), none, none, none, none, none] ⟨[], none, none, none, none, none, rfl, (fun r h => by cases h), (fun _ => rfl), rfl⟩ fun pre k post ρ hl2 hp => by
      obtain ⟨S', x6, x7, x8, x9, x10, c1, c2, c3, rfl⟩ := hp
      have hk : k < S.length := List.mem_range.mp (by rw [hl2]; simp)
      have hpl : pre.length + 1 ≤ S.length := by
        have := congrArg List.length hl2
        simp at this
        omega
      have hget : S[k]? = some (S.getD k []) := by
        rw [List.getD_eq_getElem?_getD, List.getElem?_eq_getElem hk]
        rfl
      have hix : gIx (.list (S.map rowD)) (nD k) = .ok (.dat (rowD (S.getD k []))) := gIx_l (by rw [atI_pos (by omega), Int.toNat_natCast, List.getElem?_map, hget]; rfl)
      obtain ⟨z1, z2⟩ := hS (S.getD k []) (List.mem_of_getElem? hget)
      generalize hr0 : S.getD k [] = r at hix z1 z2
      obtain ⟨st, s1, s2, s3⟩ := row_spec (c / 3 + 31 * (k : Int)) n 36 (by omega) (by omega) (by omega) (by omega)
      rw [Int.toNat_natCast] at s1
      obtain ⟨r', y8, y9, y10, d1, d2, d3, d4⟩ := spoil_row (some (.dat (.list (S.map rowD)))) (some (.dat (scr ns))) (some (.dat (.int a))) (some (.dat (.int c))) (some (.own (.list (S'.map rowD)))) (some (.dat (nD k))) x9 x10 (c % 3) n r st z1 z2 s1 s2
      have hrl : ((r.map PyData.int).length : Int) = (n : Int) := by rw [List.length_map, z1]
      have hrl2 : ((r.length : Nat) : Int) = (n : Int) := by rw [z1]
      refine ⟨_, [some (.dat (.list (S.map rowD))), some (.dat (scr ns)), some (.dat (.int a)), some (.dat (.int c)), some (.dat (.int (c % 3))), some (.own (.list ((S' ++ [r']).map rowD))), some (.dat (nD k)), some (.dat (.list (r'.map PyData.int))), y8, y9, y10], rfl, .inl ?_, S' ++ [r'], _, _, _, _, _, by rw [List.length_append, c1, List.length_append]; rfl, ?_, ?_, rfl⟩
      · have hpm : pubM (.ok (.own (.list (st.map PyData.int)))) = .ok (.own (.list (st.map PyData.int))) := pubM_ok (immA_ints st)
        refine seqN (ρ' := [some (.dat (.list (S.map rowD))), some (.dat (scr ns)), some (.dat (.int a)), some (.dat (.int c)), some (.dat (.int (c % 3))), some (.own (.list (S'.map rowD))), some (.dat (nD k)), some (.own (.list (r.map PyData.int))), x8, x9, x10]) ?_ ?_
        · clear d4 s3 c1 c2 c3 hl2 hS q0 s2 d1 d2 d3
          simp only [oSet, eCall, eOp, aCons, aNil, eVar, bN, List.getElem?_cons_zero, List.getElem?_cons_succ, List.set_cons_zero, List.set_cons_succ, bindN_ok, Sl.d_dat, hix, gList_t, oOfN_ok]
        refine seqN (ρ' := [some (.dat (.list (S.map rowD))), some (.dat (scr ns)), some (.dat (.int a)), some (.dat (.int c)), some (.dat (.int (c % 3))), some (.own (.list (S'.map rowD))), some (.dat (nD k)), some (.own (.list (r.map PyData.int))), some (.own (.list (st.map PyData.int))), x9, x10]) ?_ ?_
        · clear d4 c1 c2 c3 hl2 hS q0 s2 hix d1 d2 d3 hr0 hget hk hpl z1 s1
          walk_at "evs"
        refine seqN (forN (ds := (List.range n).map nD) ?_ d4) ?_
        · have hrg := rng_map n
          have l1 : -1000000 ≤ (n : Int) := by omega
          have l2 : (n : Int) ≤ 1000000 := by omega
          clear d4 c1 c2 c3 hl2 hS q0 s2 hix d1 d2 d3 hr0 hget hk hpl z1 s1 s3
          walk_at "evs"
          rw [Int.toNat_natCast, hrg]
        · have hbg : S'.length + 1 ≤ 16777216 := by omega
          clear d4 c1 c2 c3 hl2 hS q0 s2 hix d1 d2 d3 hr0 hget hk hpl z1 s1 s3 hrl hrl2
          refine fixN ?_
          walk_at "evs"
          simp only [List.map_append, List.map_cons, List.map_nil]
      · intro q hq
        rcases List.mem_append.mp hq with hq | hq
        · exact c2 q hq
        · rw [List.mem_singleton.mp hq]
          exact ⟨d1, d2⟩
      · intro z
        rw [c3 z, d3 z, List.map_append, List.map_cons, List.map_nil, hr0]
  refine ⟨S', by rw [c1, List.length_range], c2, fun z => ?_, ?_⟩
  · rw [c3 z]
    refine List.ext_getElem (by simp) fun i h1 h2 => ?_
    simp [List.getD_eq_getElem?_getD, h2]
  · have l1 : -1000000 ≤ (S.length : Int) := by omega
    have l2 : (S.length : Int) ≤ 1000000 := by omega
    have hrg := rng_map S.length
    unfold f_law_spoilt o_law_spoilt
    refine fnO_rt rfl ?_
    refine seqN (ρ' := [some (.dat (.list (S.map rowD))), some (.dat (scr ns)), some (.dat (.int a)), some (.dat (.int c)), none, none, none, none, none, none, none]) (by clear k1; walk_at "evs") ?_
    refine seqN (ρ' := [some (.dat (.list (S.map rowD))), some (.dat (scr ns)), some (.dat (.int a)), some (.dat (.int c)), some (.dat (.int (c % 3))), none, none, none, none, none, none]) (by clear k1; walk_at "evs") ?_
    refine seqN (by walk_at "ev"; rfl) ?_
    refine seqN (forN (ds := (List.range S.length).map nD) ?_ k1) ?_
    · clear k1 c1 c2 c3 q0
      walk_at "evs"
      rw [Int.toNat_natCast, hrg]
    · rfl
end Dl
/-! a company of the laws. -/
namespace Dl
open PySem PySem.Spec PyProof.Rows L2
/-- the true rows of a company -/
structure Truth (g : List Int) (L : List (List Int)) (prs : List (List Int × List Int)) : Prop where
  plain : plainR g
  grown : ∃ left, Grown g left L
  mem : ∀ p ∈ prs, p.1 ∈ L ∧ p.2 ∈ L
  up : ∀ p ∈ prs, ∃ a b, p = pairUp a b
theorem true_spec (ns : List Int) (a m f : Int) (ha : 0 ≤ a) (hm : 0 < m ∧ m ≤ 100) (hf : 0 ≤ f ∧ f ≤ 100) :
    ∃ (g : List Int) (L : List (List Int)) (prs : List (List Int × List Int)), Truth g L prs ∧ 0 < g.length ∧ (g.length : Int) ≤ m ∧ (prs.length : Int) ≤ f ∧
      f_law_true [scr ns, .int a, .int m, .int f] = .ok (.dat (.tuple [rowD g, .list (prs.map prD)])) := by
  have q0 := cell_spec ns a (by omega)
  have q1 := cell_spec ns (a + 1) (by omega)
  have q2 := cell_spec ns (a + 2) (by omega)
  have q3 := cell_spec ns (a + 3) (by omega)
  generalize cellAt ns a.toNat = c0 at q0
  generalize cellAt ns (a + 1).toNat = c1 at q1
  generalize cellAt ns (a + 2).toNat = c2 at q2
  generalize cellAt ns (a + 3).toNat = c3 at q3
  have m0 : 0 ≤ c0 % m := Int.emod_nonneg _ (by omega)
  have m1 : c0 % m < m := Int.emod_lt_of_pos _ hm.1
  have n0 : 0 ≤ c0 / 7 % (f + 1) := Int.emod_nonneg _ (by omega)
  have n1 : c0 / 7 % (f + 1) < f + 1 := Int.emod_lt_of_pos _ (by omega)
  obtain ⟨g, g1, g2, g3⟩ := row_spec c1 (1 + c0 % m) 2 (by omega) (by omega) (by omega) (by omega)
  have gl : (g.length : Int) = 1 + c0 % m := by omega
  obtain ⟨left, L, L1, G, L3⟩ := grown_spec g c2 g2 (by omega)
  obtain ⟨st, s1, s2, s3⟩ := row_spec c3 (c0 / 7 % (f + 1)) 720720 (by omega) (by omega) (by omega) (by omega)
  have hLne : 0 < L.length := List.length_pos_iff.mpr G.ne
  have hLl : L.length ≤ 1000 := by omega
  have hLz : (0 : Int) < (L.length : Int) := by omega
  have hLz2 : (L.length : Int) < 18446744073709551616 := by omega
  have pick : ∀ x : Int, ∃ r, r ∈ L ∧ gIx (.list (L.map rowD)) (.int (x % (L.length : Int))) = .ok (.dat (rowD r)) := by
    intro x
    have y0 : 0 ≤ x % (L.length : Int) := Int.emod_nonneg _ (by omega)
    have y1 : x % (L.length : Int) < L.length := Int.emod_lt_of_pos _ (by omega)
    generalize x % (L.length : Int) = y at y0 y1
    have hr : L[y.toNat]? = some (L[y.toNat]'(by omega)) := List.getElem?_eq_getElem (by omega)
    exact ⟨_, List.mem_of_getElem? hr, gIx_l (by rw [atI_pos y0, List.getElem?_map, hr]; rfl)⟩
  have hmz : c0 % m = (gMod (.int c0) (.int m) |> fun _ => c0 % m) := rfl
  have stl : (st.length : Int) ≤ f := by omega
  obtain ⟨ρ', k1, x7, prs, x9, x10, p1, p2, hx, rfl⟩ := oFor_pre (bd := bN 9) (body := (oSeq (oFix [7] (oSet 10 (eOp gIx (eVar 7) (eOp gMod (eVar 9) (eCall gLen (aCons (eVar 7) aNil))))))
    (oFix [7] (oMutS (mMut 8 gAppend (aCons (eCall f_law_pair_up (aCons (eVar 10) (aCons (eOp gIx (eVar 7) (eOp gMod (eOp gDiv (eVar 9) (eC (.int 840))) (eCall gLen (aCons (eVar 7) aNil)))) aNil))) aNil)))))) (e := PyData.int)
    (fun pre ρ => ∃ (x7 : Option Sl) (prs : List (List Int × List Int)) (x9 x10 : Option Sl), prs.length = pre.length ∧ (∀ p ∈ prs, (p.1 ∈ L ∧ p.2 ∈ L) ∧ ∃ a b, p = pairUp a b) ∧ (x7 = some (.own (.list (L.map rowD))) ∨ x7 = some (.dat (.list (L.map rowD)))) ∧ ρ = [some (.dat (scr ns)), some (.dat (.int a)), some (.dat (.int m)), some (.dat (.int f)), some (.dat (.int c0)), some (.dat (.int (1 + c0 % m))), some (.dat (rowD g)), x7, some (.own (.list (prs.map prD))), x9, x10]) st
    [some (.dat (scr ns)), some (.dat (.int a)), some (.dat (.int m)), some (.dat (.int f)), some (.dat (.int c0)), some (.dat (.int (1 + c0 % m))), some (.dat (rowD g)), some (.own (.list (L.map rowD))), some (.own (.list [])), none, none] ⟨_, [], none, none, rfl, (fun p h => by cases h), .inl rfl, rfl⟩ fun pre x post ρ hl2 hp => by
      obtain ⟨x7, prs, x9, x10, p1, p2, hx, rfl⟩ := hp
      obtain ⟨ra, ra1, ra2⟩ := pick x
      obtain ⟨rb, rb1, rb2⟩ := pick (x / 840)
      have hpu := pair_up_spec ra rb
      have hpl : pre.length + 1 ≤ st.length := by rw [hl2]; simp
      have hbg : prs.length + 1 ≤ 16777216 := by omega
      refine ⟨_, [some (.dat (scr ns)), some (.dat (.int a)), some (.dat (.int m)), some (.dat (.int f)), some (.dat (.int c0)), some (.dat (.int (1 + c0 % m))), some (.dat (rowD g)), some (.dat (.list (L.map rowD))), some (.own (.list ((prs ++ [pairUp ra rb]).map prD))), some (.dat (.int x)), some (.dat (rowD ra))], rfl, .inl ?g1, _, prs ++ [pairUp ra rb], _, _, by rw [List.length_append, List.length_append, p1]; rfl, ?g2, .inr rfl, rfl⟩
      case g1 =>
        refine seqN (ρ' := [some (.dat (scr ns)), some (.dat (.int a)), some (.dat (.int m)), some (.dat (.int f)), some (.dat (.int c0)), some (.dat (.int (1 + c0 % m))), some (.dat (rowD g)), some (.dat (.list (L.map rowD))), some (.own (.list (prs.map prD))), some (.dat (.int x)), some (.dat (rowD ra))]) ?_ ?_
        · clear hmz q0 q1 q2 q3 m0 m1 n0 n1 g1 g2 g3 gl L1 G L3 s1 s2 s3 pick p1 p2 ra1 rb1 hpl hl2 stl hLne hLl ha hm hf
          rcases hx with rfl | rfl
          · refine fixN ?_
            walk_at "evs"
          · refine fixN ?_
            walk_at "evs"
        · clear hmz q0 q1 q2 q3 m0 m1 n0 n1 g1 g2 g3 gl L1 G L3 s1 s2 s3 pick p1 p2 ra1 rb1 hpl hl2 stl hLne hLl ha hm hf hx
          refine fixN ?_
          walk_at "evs"
          simp only [List.map_append, List.map_cons, List.map_nil]
      case g2 =>
        intro p hp
        rcases List.mem_append.mp hp with hp | hp
        · exact p2 p hp
        · rw [List.mem_singleton.mp hp]
          refine ⟨?_, ra, rb, rfl⟩
          unfold pairUp
          split
          · exact ⟨ra1, rb1⟩
          · exact ⟨rb1, ra1⟩
  refine ⟨g, L, prs, ⟨g2, ⟨left, G⟩, fun p hp => (p2 p hp).1, fun p hp => (p2 p hp).2⟩, by omega, by omega, by omega, ?_⟩
  have hfo : f_law_founder [.int c1, .int (1 + c0 % m)] = .ok (.dat (rowD g)) := by
    unfold f_law_founder o_law_founder
    refine fnO_rt rfl ?_
    clear hmz k1 q0 q1 q2 q3 m0 m1 n0 n1 g1 g2 gl L1 G L3 s1 s2 s3 pick p1 p2 stl hLne hLl ha hm hf hx
    walk_at "evs"
  have hmod : gMod (.int c0) (.int m) = retI (c0 % m) := gMod_ii hm.1
  have hmod2 : gMod (.int (c0 / 7)) (.int (f + 1)) = retI (c0 / 7 % (f + 1)) := gMod_ii (by omega)
  unfold f_law_true o_law_true
  refine fnO_rt rfl ?_
  refine seqN (ρ' := [some (.dat (scr ns)), some (.dat (.int a)), some (.dat (.int m)), some (.dat (.int f)), some (.dat (.int c0)), none, none, none, none, none, none]) (by clear k1 hmz pick hx; walk_at "evs") ?_
  refine seqN (ρ' := [some (.dat (scr ns)), some (.dat (.int a)), some (.dat (.int m)), some (.dat (.int f)), some (.dat (.int c0)), some (.dat (.int (1 + c0 % m))), none, none, none, none, none]) (by
    simp only [oSet, eOp, eC, eVar, List.getElem?_cons_zero, List.getElem?_cons_succ, bindN_ok, Sl.d_dat, hmod, retI, gAdd_ii, oOfN_ok]
    rfl) ?_
  refine seqN (ρ' := [some (.dat (scr ns)), some (.dat (.int a)), some (.dat (.int m)), some (.dat (.int f)), some (.dat (.int c0)), some (.dat (.int (1 + c0 % m))), some (.dat (rowD g)), none, none, none, none]) (by
    simp only [oSet, eOp, eC, eVar, eCall, aCons, aNil, List.getElem?_cons_zero, List.getElem?_cons_succ, bindN_ok, Sl.d_dat, q1, retI, gAdd_ii, hfo, oOfN_ok]
    rfl) ?_
  refine seqN (ρ' := [some (.dat (scr ns)), some (.dat (.int a)), some (.dat (.int m)), some (.dat (.int f)), some (.dat (.int c0)), some (.dat (.int (1 + c0 % m))), some (.dat (rowD g)), some (.own (.list (L.map rowD))), none, none, none]) (by
    simp only [oSet, eOp, eC, eVar, eCall, aCons, aNil, List.getElem?_cons_zero, List.getElem?_cons_succ, bindN_ok, Sl.d_dat, q2, retI, gAdd_ii, L3, oOfN_ok]
    rfl) ?_
  refine seqN (ρ' := [some (.dat (scr ns)), some (.dat (.int a)), some (.dat (.int m)), some (.dat (.int f)), some (.dat (.int c0)), some (.dat (.int (1 + c0 % m))), some (.dat (rowD g)), some (.own (.list (L.map rowD))), some (.own (.list [])), none, none]) rfl ?_
  refine seqN (forN (ds := st.map PyData.int) (by
    simp only [iOf, eOp, eC, eVar, eCall, aCons, aNil, List.getElem?_cons_zero, List.getElem?_cons_succ, bindN_ok, Sl.d_dat, Sl.d_own, q3, retI, gAdd_ii, gDiv_ii (show (0 : Int) < 7 by decide) (show (7 : Int) < 18446744073709551616 by decide), hmod2, s3, itemsD]) k1) ?_
  rcases hx with rfl | rfl
  · refine fixN ?_
    rfl
  · refine fixN ?_
    rfl
/-- the folk of a company -/
theorem company_spec2 (ns : List Int) (a m f : Int) (ha : 0 ≤ a) (hm : 0 < m ∧ m ≤ 40) (hf : 0 ≤ f ∧ f ≤ 40) :
    ∃ (g : List Int) (L : List (List Int)) (prs : List (List Int × List Int)) (fk : Folk), Truth g L prs ∧ 0 < g.length ∧ (g.length : Int) ≤ m ∧ (fk.length : Int) ≤ f ∧ fk.length = prs.length ∧ (∀ q ∈ fk, q.2.length = g.length ∧ mixR q.2) ∧ (∀ q ∈ fk, SOk q.1) ∧
      (∀ i, i < fk.length → (fk.getD i ("", [])).1 = nameS (cellAt ns a.toNat / 7) (i : Int)) ∧ (cellAt ns (a + 4).toNat % 3 = 0 → fk.map (·.2) = prs.map fun p => seen p.1 p.2) ∧
      f_law_true [scr ns, .int a, .int m, .int f] = .ok (.dat (.tuple [rowD g, .list (prs.map prD)])) ∧ f_law_company [scr ns, .int a, .int m, .int f] = .ok (.dat (.tuple [rowD g, .list (fk.map fkD)])) := by
  obtain ⟨g, L, prs, T, t1, t2, t3, t4⟩ := true_spec ns a m f ha (by omega) (by omega)
  obtain ⟨left, G⟩ := T.grown
  have hS : ∀ r ∈ prs.map (fun p => seen p.1 p.2), r.length = g.length ∧ mixR r := by
    intro r hr
    obtain ⟨p, hp, rfl⟩ := List.mem_map.mp hr
    obtain ⟨h1, h2⟩ := T.mem p hp
    have l1 := G.len _ h1
    have l2 := G.len _ h2
    exact ⟨by rw [seen_length _ _ (by omega)]; exact l1, seen_marks _ _ (G.plain _ h1)⟩
  obtain ⟨S, c1, c2, c3, c4⟩ := spoilt_spec (prs.map fun p => seen p.1 p.2) ns a g.length ha (by omega) hS (by rw [List.length_map]; omega)
  rw [List.length_map] at c1
  have q0 := cell_spec ns a ha
  generalize cellAt ns a.toNat = c0 at q0
  refine ⟨g, L, prs, (List.range S.length).map fun (k : Nat) => (nameS (c0 / 7) (k : Int), S.getD k []), T, t1, t2, by rw [List.length_map, List.length_range, c1]; exact t3, by rw [List.length_map, List.length_range, c1], ?_, (fun q hq => by
    obtain ⟨k, _, rfl⟩ := List.mem_map.mp hq
    exact name_ok _ _), ?_, ?_, t4, ?_⟩
  · intro q hq
    obtain ⟨k, hk, rfl⟩ := List.mem_map.mp hq
    have hk : k < S.length := List.mem_range.mp hk
    refine c2 (S.getD k []) ?_
    rw [List.getD_eq_getElem?_getD, List.getElem?_eq_getElem hk]
    exact List.getElem_mem _
  · intro i hi
    rw [List.length_map, List.length_range] at hi
    rw [List.getD_eq_getElem?_getD, List.getElem?_map, List.getElem?_range hi]
    rfl
  · intro z
    rw [← c3 z, List.map_map]
    refine List.ext_getElem (by simp) fun i h1 h2 => ?_
    simp [List.getD_eq_getElem?_getD, h2]
  have f1 := lcF_map (bd := bN 8) (fe := eCall f_law_seen (aCons (eOp gIx (eVar 8) (eC (.int 0))) (aCons (eOp gIx (eVar 8) (eC (.int 1))) aNil))) (ρ := [some (.dat (scr ns)), some (.dat (.int a)), some (.dat (.int m)), some (.dat (.int f)), none, none, some (.dat (rowD g)), some (.dat (.list (prs.map prD))), none, none]) (e := prD) (fun p => rowD (seen p.1 p.2)) prs fun p hp => by
    obtain ⟨h1, h2⟩ := T.mem p hp
    have l1 := G.len _ h1
    have l2 := G.len _ h2
    have h := law_seen_spec p.1 p.2 (by omega) (by omega)
    have i0 : gIx (prD p) (.int 0) = .ok (.dat (rowD p.1)) := gIx_t rfl
    have i1 : gIx (prD p) (.int 1) = .ok (.dat (rowD p.2)) := gIx_t rfl
    refine ⟨_, rfl, .dat (rowD (seen p.1 p.2)), ?_, rfl⟩
    simp only [eCall, eOp, eC, aCons, aNil, eVar, List.getElem?_cons_zero, List.getElem?_cons_succ, List.set_cons_zero, List.set_cons_succ, bindN_ok, Sl.d_dat, i0, i1, h]
  rw [show prs.map (fun p => rowD (seen p.1 p.2)) = (prs.map fun p => seen p.1 p.2).map rowD by rw [List.map_map]; rfl] at f1
  have f2 := lcF_map (bd := bN 9) (fe := eTup (aCons (eCall f_law_name (aCons (eOp gDiv (eVar 5) (eC (.int 7))) (aCons (eVar 9) aNil))) (aCons (eOp gIx (eVar 4) (eVar 9)) aNil))) (ρ := [some (.dat (scr ns)), some (.dat (.int a)), some (.dat (.int m)), some (.dat (.int f)), some (.dat (.list (S.map rowD))), some (.dat (.int c0)), some (.dat (rowD g)), some (.dat (.list (prs.map prD))), none, none]) (e := nD) (fun (k : Nat) => fkD (nameS (c0 / 7) (k : Int), S.getD k [])) (List.range S.length) fun k hk => by
    have hk : k < S.length := List.mem_range.mp hk
    have hix : gIx (.list (S.map rowD)) (nD k) = .ok (.dat (rowD (S.getD k []))) := gIx_l (by
      rw [atI_pos (by omega), Int.toNat_natCast, List.getElem?_map, List.getD_eq_getElem?_getD, List.getElem?_eq_getElem hk]
      rfl)
    have hnm := name_spec (c0 / 7) (k : Int)
    refine ⟨_, rfl, .dat (fkD (nameS (c0 / 7) (k : Int), S.getD k [])), ?_, rfl⟩
    simp only [eTup, eCall, eOp, eC, aCons, aNil, eVar, List.getElem?_cons_zero, List.getElem?_cons_succ, List.set_cons_zero, List.set_cons_succ, bindN_ok, Sl.d_dat, hix, gDiv_ii (show (0 : Int) < 7 by decide) (show (7 : Int) < 18446744073709551616 by decide), retI, hnm, List.length_cons, List.length_nil, big, Nat.reduceAdd, Nat.reduceLeDiff, decide_true, if_true]
  have hb1 : big ((prs.map fun p => seen p.1 p.2).map rowD).length = true := decide_eq_true (by rw [List.length_map, List.length_map]; omega)
  have hb2 : big ((List.range S.length).map fun (k : Nat) => fkD (nameS (c0 / 7) (k : Int), S.getD k [])).length = true := decide_eq_true (by rw [List.length_map, List.length_range]; omega)
  have hrg := rng_map S.length
  unfold f_law_company o_law_company
  refine fnO_rt rfl ?_
  refine seqN (ρ' := [some (.dat (scr ns)), some (.dat (.int a)), some (.dat (.int m)), some (.dat (.int f)), none, none, some (.dat (rowD g)), some (.dat (.list (prs.map prD))), none, none]) (by
    simp only [oAsg, eCall, aCons, aNil, eVar, List.map_cons, List.map_nil, List.replicate_succ, List.replicate_zero, Nat.reduceSub, List.cons_append, List.nil_append, List.getElem?_cons_zero, List.getElem?_cons_succ, bindN_ok, Sl.d_dat, t4, oOfN_ok]
    rfl) ?_
  refine seqN (ρ' := [some (.dat (scr ns)), some (.dat (.int a)), some (.dat (.int m)), some (.dat (.int f)), some (.own (.list ((prs.map fun p => seen p.1 p.2).map rowD))), none, some (.dat (rowD g)), some (.dat (.list (prs.map prD))), none, none]) (by
    simp only [oSet, eLc, iOf, eVar, List.getElem?_cons_zero, List.getElem?_cons_succ, List.set_cons_zero, List.set_cons_succ, bindN_ok, Sl.d_dat, itemsD, wipeE, f1, hb1, if_true, oOfN_ok]) ?_
  refine seqN (ρ' := [some (.dat (scr ns)), some (.dat (.int a)), some (.dat (.int m)), some (.dat (.int f)), some (.own (.list (S.map rowD))), none, some (.dat (rowD g)), some (.dat (.list (prs.map prD))), none, none]) (fixN (by
    simp only [fixs, Env.fix, List.getElem?_cons_zero, List.getElem?_cons_succ, fixS_own, List.set_cons_zero, List.set_cons_succ, oSet, eCall, aCons, aNil, eVar, bindN_ok, Sl.d_dat, c4, oOfN_ok])) ?_
  refine seqN (ρ' := [some (.dat (scr ns)), some (.dat (.int a)), some (.dat (.int m)), some (.dat (.int f)), some (.own (.list (S.map rowD))), some (.dat (.int c0)), some (.dat (rowD g)), some (.dat (.list (prs.map prD))), none, none]) (by
    simp only [oSet, eCall, aCons, aNil, eVar, List.getElem?_cons_zero, List.getElem?_cons_succ, bindN_ok, Sl.d_dat, q0, oOfN_ok]
    rfl) ?_
  refine fixN ?_
  have l1 : -1000000 ≤ (S.length : Int) := by omega
  have l2 : (S.length : Int) ≤ 1000000 := by omega
  have hlen : gLen [.list (S.map rowD)] = retI (S.length : Int) := by rw [gLen_l, List.length_map]
  simp only [fixs, Env.fix, List.getElem?_cons_zero, List.getElem?_cons_succ, fixS_own, List.set_cons_zero, List.set_cons_succ]
  simp only [oRet, eTup, aCons, aNil, eVar, eLc, iAr, eCall, List.getElem?_cons_zero, List.getElem?_cons_succ, List.set_cons_zero, List.set_cons_succ, bindN_ok, Sl.d_dat, Sl.d_own, hlen, retI, rng1_i l1 l2, Int.toNat_natCast, hrg, wipeE, f2, hb2, if_true]
  simp only [List.length_cons, List.length_nil, big, Nat.reduceAdd, Nat.reduceLeDiff, decide_true, if_true, oOfN_ok]
  rw [List.map_map]
  rfl
end Dl
/-! data of whole numbers, texts and None: equal. The live pairs by the law. -/
namespace Dl
open PySem PySem.Spec PyProof.Rows L2
def dm : Nat → PyData → Bool
  | _, .int _ => true
  | _, .str s => PyData.strOk s
  | _, .none => true
  | n + 1, .tuple xs => xs.all (dm n)
  | n + 1, .list xs => xs.all (dm n)
  | _, _ => false
theorem dm_str (n : Nat) (i : Str) (h : SOk i) : dm n (.str i) = true := by cases n <;> exact h.ok
theorem dm_eqv : ∀ (n m : Nat) (d e : PyData), dm n d = true → dm m e = true → (PyData.eqv d e = true ↔ d = e) := by
  intro n
  induction n with
  | zero =>
    intro m d e h h2
    cases d <;> try (simp [dm] at h; done)
    all_goals (cases m <;> cases e <;> first | (simp [dm] at h2; done) | (simp [PyData.eqv]; done))
  | succ n ih =>
    intro m d e h h2
    cases d <;> try (simp [dm] at h; done)
    all_goals (cases m <;> cases e <;> try (first | (simp [dm] at h2; done) | (simp [PyData.eqv]; done)))
    · simp only [PyData.eqv, PyData.list.injEq]
      exact dn_eqvAll _ _ (fun x _ y _ hx hy => ih _ x y hx hy) h h2
    · simp only [PyData.eqv, PyData.tuple.injEq]
      exact dn_eqvAll _ _ (fun x _ y _ hx hy => ih _ x y hx hy) h h2
theorem dm_lay : ∀ (n : Nat) (d : PyData), dm n d = true → d.canLay0 = true ∧ d.depth ≤ n := by
  intro n
  induction n with
  | zero =>
    intro d h
    cases d with
    | int i => exact ⟨by simp [PyData.canLay0], by simp [PyData.depth]⟩
    | none => exact ⟨by simp [PyData.canLay0], by simp [PyData.depth]⟩
    | str s =>
      have h : PyData.strOk s = true := h
      exact ⟨by simp [PyData.canLay0, h], by simp [PyData.depth]⟩
    | bool b => simp [dm] at h
    | list b => simp [dm] at h
    | tuple b => simp [dm] at h
    | dict b => simp [dm] at h
  | succ n ih =>
    intro d h
    cases d with
    | int i => exact ⟨by simp [PyData.canLay0], by simp [PyData.depth]⟩
    | none => exact ⟨by simp [PyData.canLay0], by simp [PyData.depth]⟩
    | str s =>
      have h : PyData.strOk s = true := h
      exact ⟨by simp [PyData.canLay0, h], by simp [PyData.depth]⟩
    | bool b => simp [dm] at h
    | dict b => simp [dm] at h
    | list b =>
      have h2 := dn_all (n := n) ih _ h
      simp only [PyData.canLay0, PyData.depth]
      exact ⟨h2.1, by omega⟩
    | tuple b =>
      have h2 := dn_all (n := n) ih _ h
      simp only [PyData.canLay0, PyData.depth]
      exact ⟨h2.1, by omega⟩
theorem dm_shaped {n : Nat} {d : PyData} (h : dm n d = true) (hn : n ≤ 64) : SeqAt.shaped d = true := by
  have := dm_lay n d h
  unfold SeqAt.shaped
  rw [this.1, Bool.true_and]
  exact decide_eq_true (by omega)
/-! ### live pairs by the law -/
theorem live_told {g : List Int} {fk : Folk} (hr : ∀ f ∈ fk, f.2.length = g.length) : liveL ((toldOf g fk).map (·.2)) g.length = liveL (fk.map (·.2)) g.length := by
  unfold liveL toldOf
  rw [List.map_map]
  refine List.filter_congr fun p hp => ?_
  have hp := mem_pairsL'.mp hp
  rw [List.any_map, List.any_map]
  have key : ∀ f ∈ fk, both2 (ag f.2 g) p = both2 f.2 p := by
    intro f hf
    have hl := hr f hf
    have e : ∀ i, i < g.length → ((ag f.2 g).getD i 0 = 2 ↔ f.2.getD i 0 = 2) := by
      intro i hi
      unfold ag
      rw [sp_getD f.2 g (by omega) agM i (by omega)]
      unfold agM
      split
      · rename_i h
        exact ⟨fun _ => h, fun _ => rfl⟩
      · rename_i h
        constructor
        · intro z
          omega
        · exact fun z => absurd z h
    unfold both2
    rw [Bool.eq_iff_iff, Bool.and_eq_true, Bool.and_eq_true, decide_eq_true_eq, decide_eq_true_eq, decide_eq_true_eq, decide_eq_true_eq, e p.1 (by omega), e p.2 hp.2]
  rw [Bool.eq_iff_iff, List.any_eq_true, List.any_eq_true]
  constructor
  · rintro ⟨f, hf, h⟩
    exact ⟨f, hf, (key f hf).symm.trans h⟩
  · rintro ⟨f, hf, h⟩
    exact ⟨f, hf, (key f hf).trans h⟩
end Dl
/-! Tools: loops and comprehensions without their texts. -/
namespace Dl
open PySem PySem.Spec PyProof.Rows L2
abbrev sd (d : PyData) : Option Sl := some (.dat d)
abbrev so (d : PyData) : Option Sl := some (.own d)
theorem gNe_ss {a b : Str} : gNe (.str a) (.str b) = retB (!decide (a = b)) := rfl
end Dl
--EV2-BEGIN
local macro_rules | `(tactic| walk_at "e") => `(tactic| simp only [Dl.fnO, Dl.oSeq, Dl.gLen_s, Dl.oSet, Dl.oIf, Dl.oRet, Dl.oRetV, Dl.oRetN, Dl.oNx, Dl.oBk, Dl.oCt, Dl.oExp, Dl.oFix, Dl.fixs, Dl.Env.fix, Dl.oForE, Dl.oMutS, Dl.oMutA, Dl.oAsg, Dl.oSetIx, Dl.mMut, Dl.mMutM, Dl.mCall, Dl.mLift, Dl.amCons, Dl.eVar, Dl.eC, Dl.eOp, Dl.eUn, Dl.eIf, Dl.eAndV, Dl.eOrV, Dl.eNotV, Dl.eTup, Dl.eLst, Dl.eCall, Dl.eIsi, Dl.eChain, Dl.eSl, Dl.sNone, Dl.sSome, Dl.isI, Dl.isB, Dl.tOf, Dl.tAndF, Dl.tOrF, Dl.tNotF, Dl.aNil, Dl.aCons, Dl.iOf, Dl.iAr, Dl.itemsD, Dl.rng1_i, Dl.rng2_i, Dl.bN, Dl.bTup, Dl.bCons, Dl.bNil, Dl.oOfN_ok, Dl.oOf_exc, Dl.oOf_stuck, Dl.bindN_ok, Dl.bind_exc, Dl.bind_stuck, Dl.Sl.d_dat, Dl.Sl.d_own, Dl.gAdd_ii, Dl.gAdd_tt, Dl.gAdd_ll, Dl.gSub_ii, Dl.gMod_ii, Dl.gDiv_ii, Dl.gMul_l, Dl.gMul_r, Dl.gPow_ii, Dl.gNeg_i, Dl.gEq_ii, Dl.gNe_ii, Dl.gEq_bb, Dl.gNe_bb, Dl.gCmp_ii, Dl.cmpI, Dl.gIsN_n, Dl.gNotN_n, Dl.isNoneD, Dl.gAppend_1, Dl.gLen_l, Dl.gLen_t, Dl.gTuple_l, Dl.gTuple_t, Dl.gList_l, Dl.gList_t, Dl.ePub, Dl.tPub, Dl.gMin2_ii, Dl.fixAll_map, Dl.fixS_own, Dl.fixS_dat, Dl.fixS_none, Dl.pubM_ok, Dl.immSl_dat, Dl.imm_int, Dl.imm_bool, Dl.imm_tup, Dl.immA_ints,  Dl.ncast0, Dl.ncast1, Dl.ncast2, Dl.ncast3, Dl.ncast4, Dl.ncast5, Dl.oFor_nil, Dl.oFor_cons, Dl.gSl_t, Dl.gSl_l,  Dl.eLc, Dl.wipeE, Dl.zipOf_l, Dl.zipOf_t, Dl.enumOf_l, Dl.enumOf_t,  Dl.isi_int_int, Dl.isi_int_bool, Dl.isi_int_tuple, Dl.isi_int_list, Dl.isi_int_str, Dl.isi_bool_int, Dl.isi_bool_bool, Dl.isi_bool_tuple, Dl.isi_bool_list, Dl.isi_bool_str, Dl.isi_tuple_int, Dl.isi_tuple_bool, Dl.isi_tuple_tuple, Dl.isi_tuple_list, Dl.isi_tuple_str, Dl.isi_list_int, Dl.isi_list_bool, Dl.isi_list_tuple, Dl.isi_list_list, Dl.isi_list_str, Dl.isi_str_int, Dl.isi_str_bool, Dl.isi_str_tuple, Dl.isi_str_list, Dl.isi_str_str, Dl.isi_none_int, Dl.isi_none_bool, Dl.isi_none_tuple, Dl.isi_none_list, Dl.isi_none_str, Dl.gMax2_ii, List.getElem?_cons_zero, List.getElem?_cons_succ, List.set_cons_zero, List.set_cons_succ, List.map_cons, List.map_nil, List.length_cons, List.length_nil, List.replicate_succ, List.replicate_zero, List.cons_append, List.nil_append, List.append_nil, Nat.reduceSub, Nat.reduceAdd, Nat.reduceEqDiff, if_true, if_false, ite_true, ite_false, Bool.false_eq_true, decide_eq_true_eq, Nat.zero_add, and_self, true_and, and_true, or_true, true_or, or_false, false_or, not_true_eq_false, not_false_eq_true, Bool.not_true, Bool.not_false, Bool.or_true, Bool.true_or, Bool.or_false, Bool.false_or, Bool.and_true, Bool.true_and, Bool.and_false, Bool.false_and, decide_true, decide_false, List.length_map, Dl.big, Int.reduceLT, Int.reduceLE, Int.reduceAdd, Int.reduceSub, Int.reduceMul, Int.reduceNeg, Int.reduceMod, Int.reduceDiv, Int.reduceToNat, Int.reducePow, Int.reduceEq, Nat.reduceLeDiff, ↓reduceIte, List.length_append, Bool.true_eq_false, Dl.retI, Dl.retB, Dl.retS, Dl.eNewT, Dl.eNewK, Dl.gSum_ints, Dl.gEq_ss, Dl.gNe_ss, Dl.oExc])
local macro_rules | `(tactic| walk_at "es") => `(tactic| simp only [*, Dl.fnO, Dl.oSeq, Dl.gLen_s, Dl.oSet, Dl.oIf, Dl.oRet, Dl.oRetV, Dl.oRetN, Dl.oNx, Dl.oBk, Dl.oCt, Dl.oExp, Dl.oFix, Dl.fixs, Dl.Env.fix, Dl.oForE, Dl.oMutS, Dl.oMutA, Dl.oAsg, Dl.oSetIx, Dl.mMut, Dl.mMutM, Dl.mCall, Dl.mLift, Dl.amCons, Dl.eVar, Dl.eC, Dl.eOp, Dl.eUn, Dl.eIf, Dl.eAndV, Dl.eOrV, Dl.eNotV, Dl.eTup, Dl.eLst, Dl.eCall, Dl.eIsi, Dl.eChain, Dl.eSl, Dl.sNone, Dl.sSome, Dl.isI, Dl.isB, Dl.tOf, Dl.tAndF, Dl.tOrF, Dl.tNotF, Dl.aNil, Dl.aCons, Dl.iOf, Dl.iAr, Dl.itemsD, Dl.rng1_i, Dl.rng2_i, Dl.bN, Dl.bTup, Dl.bCons, Dl.bNil, Dl.oOfN_ok, Dl.oOf_exc, Dl.oOf_stuck, Dl.bindN_ok, Dl.bind_exc, Dl.bind_stuck, Dl.Sl.d_dat, Dl.Sl.d_own, Dl.gAdd_ii, Dl.gAdd_tt, Dl.gAdd_ll, Dl.gSub_ii, Dl.gMod_ii, Dl.gDiv_ii, Dl.gMul_l, Dl.gMul_r, Dl.gPow_ii, Dl.gNeg_i, Dl.gEq_ii, Dl.gNe_ii, Dl.gEq_bb, Dl.gNe_bb, Dl.gCmp_ii, Dl.cmpI, Dl.gIsN_n, Dl.gNotN_n, Dl.isNoneD, Dl.gAppend_1, Dl.gLen_l, Dl.gLen_t, Dl.gTuple_l, Dl.gTuple_t, Dl.gList_l, Dl.gList_t, Dl.ePub, Dl.tPub, Dl.gMin2_ii, Dl.fixAll_map, Dl.fixS_own, Dl.fixS_dat, Dl.fixS_none, Dl.pubM_ok, Dl.immSl_dat, Dl.imm_int, Dl.imm_bool, Dl.imm_tup, Dl.immA_ints,  Dl.ncast0, Dl.ncast1, Dl.ncast2, Dl.ncast3, Dl.ncast4, Dl.ncast5, Dl.oFor_nil, Dl.oFor_cons, Dl.gSl_t, Dl.gSl_l,  Dl.eLc, Dl.wipeE, Dl.zipOf_l, Dl.zipOf_t, Dl.enumOf_l, Dl.enumOf_t,  Dl.isi_int_int, Dl.isi_int_bool, Dl.isi_int_tuple, Dl.isi_int_list, Dl.isi_int_str, Dl.isi_bool_int, Dl.isi_bool_bool, Dl.isi_bool_tuple, Dl.isi_bool_list, Dl.isi_bool_str, Dl.isi_tuple_int, Dl.isi_tuple_bool, Dl.isi_tuple_tuple, Dl.isi_tuple_list, Dl.isi_tuple_str, Dl.isi_list_int, Dl.isi_list_bool, Dl.isi_list_tuple, Dl.isi_list_list, Dl.isi_list_str, Dl.isi_str_int, Dl.isi_str_bool, Dl.isi_str_tuple, Dl.isi_str_list, Dl.isi_str_str, Dl.isi_none_int, Dl.isi_none_bool, Dl.isi_none_tuple, Dl.isi_none_list, Dl.isi_none_str, Dl.gMax2_ii, List.getElem?_cons_zero, List.getElem?_cons_succ, List.set_cons_zero, List.set_cons_succ, List.map_cons, List.map_nil, List.length_cons, List.length_nil, List.replicate_succ, List.replicate_zero, List.cons_append, List.nil_append, List.append_nil, Nat.reduceSub, Nat.reduceAdd, Nat.reduceEqDiff, if_true, if_false, ite_true, ite_false, Bool.false_eq_true, decide_eq_true_eq, Nat.zero_add, and_self, true_and, and_true, or_true, true_or, or_false, false_or, not_true_eq_false, not_false_eq_true, Bool.not_true, Bool.not_false, Bool.or_true, Bool.true_or, Bool.or_false, Bool.false_or, Bool.and_true, Bool.true_and, Bool.and_false, Bool.false_and, decide_true, decide_false, List.length_map, Dl.big, Int.reduceLT, Int.reduceLE, Int.reduceAdd, Int.reduceSub, Int.reduceMul, Int.reduceNeg, Int.reduceMod, Int.reduceDiv, Int.reduceToNat, Int.reducePow, Int.reduceEq, Nat.reduceLeDiff, ↓reduceIte, List.length_append, Bool.true_eq_false, Dl.retI, Dl.retB, Dl.retS, Dl.eNewT, Dl.eNewK, Dl.gSum_ints, Dl.gEq_ss, Dl.gNe_ss, Dl.oExc])
local macro_rules | `(tactic| walk_at "s") => `(tactic| refine Dl.seqN (by walk_at "es"; rfl) ?_)
--EV2-END
namespace Dl
open PySem PySem.Spec PyProof.Rows L2
/-- a loop, by what holds after a prefix -/
theorem forP {α : Type} {fi : Env → M (List PyData)} {bd : PyData → Env → M Env} {body : Env → O} {ρ : Env} (e : α → PyData) (ls : List α) (I : List α → Env → Prop) (hfi : fi ρ = .ok (ls.map e)) (h0 : I [] ρ)
    (st : ∀ pre a post ρ, ls = pre ++ a :: post → I pre ρ → ∃ ρ1 ρ2, bd (e a) ρ = .ok ρ1 ∧ (body ρ1 = .nx ρ2 ∨ body ρ1 = .ct ρ2) ∧ I (pre ++ [a]) ρ2) : ∃ ρ', oForE fi bd body ρ = .nx ρ' ∧ I ls ρ' := by
  obtain ⟨ρ', h1, h2⟩ := oFor_pre (bd := bd) (body := body) (e := e) I ls ρ h0 (fun pre a post ρ hl hi => by
    obtain ⟨ρ1, ρ2, k1, k2, k3⟩ := st pre a post ρ hl hi
    exact ⟨ρ1, ρ2, k1, k2, k3⟩)
  exact ⟨ρ', forN hfi h1, h2⟩
theorem forS {α : Type} {fi : Env → M (List PyData)} {bd : PyData → Env → M Env} {body g : Env → O} {ρ : Env} {r : O} (e : α → PyData) (ls : List α) (I : List α → Env → Prop) (hfi : fi ρ = .ok (ls.map e)) (h0 : I [] ρ)
    (st : ∀ pre a post ρ, ls = pre ++ a :: post → I pre ρ → ∃ ρ1 ρ2, bd (e a) ρ = .ok ρ1 ∧ (body ρ1 = .nx ρ2 ∨ body ρ1 = .ct ρ2) ∧ I (pre ++ [a]) ρ2) (k : ∀ ρ', I ls ρ' → g ρ' = r) : oSeq (oForE fi bd body) g ρ = r :=
  seqP (I ls) (forP e ls I hfi h0 st) k
theorem lcE {α : Type} {fi : Env → M (List PyData)} {own : List Nat} {bd : PyData → Env → M Env} {fe : Env → M Sl} {ρ : Env} (e : α → PyData) (ls : List α) (g : α → PyData) (hfi : fi ρ = .ok (ls.map e)) (hb : ls.length ≤ 16777216)
    (h : ∀ a ∈ ls, ∃ ρ1, bd (e a) (wipeE ρ own) = .ok ρ1 ∧ ∃ y, fe ρ1 = .ok y ∧ y.d = g a) : eLc fi own bd (fun _ => .ok true) fe ρ = .ok (.own (.list (ls.map g))) := by
  unfold eLc
  rw [hfi, bindN_ok, lcF_map g ls h, bindN_ok, List.length_map, if_pos (big_lt hb)]
theorem lcG {α : Type} {fi : Env → M (List PyData)} {own : List Nat} {bd : PyData → Env → M Env} {tt : Env → M Bool} {fe : Env → M Sl} {ρ : Env} (e : α → PyData) (ls : List α) (p : α → Bool) (g : α → PyData) (hfi : fi ρ = .ok (ls.map e)) (hb : ls.length ≤ 16777216)
    (h : ∀ a ∈ ls, ∃ ρ1, bd (e a) (wipeE ρ own) = .ok ρ1 ∧ tt ρ1 = .ok (p a) ∧ (p a = true → ∃ y, fe ρ1 = .ok y ∧ y.d = g a)) : eLc fi own bd tt fe ρ = .ok (.own (.list ((ls.filter p).map g))) := by
  unfold eLc
  rw [hfi, bindN_ok, lcF_gen p g ls h, bindN_ok, List.length_map, if_pos (big_lt (Nat.le_trans (List.length_filter_le ..) hb))]
end Dl
/-! Joints: loose pairs, the count, the values of a number. -/
namespace Dl
open PySem PySem.Spec PyProof.Rows L2
theorem fnO_nx {n m : Nat} {o : Env → O} {ds : List PyData} {ρ : Env} (h : ds.length = n) (k : o (ds.map (fun d => some (Sl.dat d)) ++ List.replicate (m - n) none) = .nx ρ) : fnO n m o ds = .ok (.dat .none) := by
  unfold fnO
  rw [if_pos h, k]
theorem atI_last {l : List PyData} {d : PyData} (h : l.getLast? = some d) : atI l (-1) = some d := by
  have hl : 0 < l.length := List.length_pos_iff.mpr fun e => by rw [e] at h; cases h
  rw [List.getLast?_eq_getElem?] at h
  unfold atI ixN
  have h1 : ¬ ((0 : Int) ≤ -1) := by omega
  have h2 : (0 : Int) ≤ (-1 : Int) + l.length := by omega
  simp only [h1, if_false]
  have h3 : ((-1 : Int) + (l.length : Int)).toNat = l.length - 1 := by omega
  have h4 : -(l.length : Int) ≤ -1 := by omega
  simp only [h4, if_true, h3, h, Option.bind_some]
theorem getLast_map {α : Type} (e : α → PyData) {l : List α} (d : α) (h : l ≠ []) : (l.map e).getLast? = some (e (l.getLastD d)) := by
  rw [List.getLast?_map, List.getLastD_eq_getLast?]
  cases h2 : l.getLast? with
  | none => exact absurd (List.getLast?_eq_none_iff.mp h2) h
  | some a => rfl
def jfs : List Str := ["base", "folk", "said", "told", "pairs", "sums", "paper"]
/-- an instance of Joints, by its fields -/
structure JIs (J : PyData) (g : List Int) (fk : Folk) (sdl : PyData) (T : Folk) (L : List (Nat × Nat)) (K : List Sm) (pp : PyData) : Prop where
  base : gFld "Joints" "base" J = .ok (.dat (rowD g))
  folk : gFld "Joints" "folk" J = .ok (.dat (.list (fk.map fkD)))
  said : gFld "Joints" "said" J = .ok (.dat sdl)
  told : gFld "Joints" "told" J = .ok (.dat (.list (T.map fkD)))
  pairs : gFld "Joints" "pairs" J = .ok (.dat (.list (L.map npD)))
  sums : gFld "Joints" "sums" J = .ok (.dat (suD K))
  paper : gFld "Joints" "paper" J = .ok (.dat pp)
  ins : ∀ m : Str, (jfs.all fun f => !decide (f = m)) = true → insOf "Joints" m J = true
theorem js_is (g : List Int) (fk : Folk) (sd : List Said) (T : Folk) (L : List (Nat × Nat)) (K : List Sm) (pp : PyData) : JIs (jsD g fk sd T L K pp) g fk (.list (sd.map saidD)) T L K pp where
  base := gFld_of (by rw [getF_hd])
  folk := gFld_of (by rw [getF_tl ne_base_folk, getF_hd])
  said := gFld_of (by rw [getF_tl ne_base_said, getF_tl ne_folk_said, getF_hd])
  told := gFld_of (by rw [getF_tl ne_base_told, getF_tl ne_folk_told, getF_tl ne_said_told, getF_hd])
  pairs := gFld_of (by rw [getF_tl ne_base_pairs, getF_tl ne_folk_pairs, getF_tl ne_said_pairs, getF_tl ne_told_pairs, getF_hd])
  sums := gFld_of (by rw [getF_tl ne_base_sums, getF_tl ne_folk_sums, getF_tl ne_said_sums, getF_tl ne_told_sums, getF_tl ne_pairs_sums, getF_hd])
  paper := gFld_of (by rw [getF_tl ne_base_paper, getF_tl ne_folk_paper, getF_tl ne_said_paper, getF_tl ne_told_paper, getF_tl ne_pairs_paper, getF_tl ne_sums_paper, getF_hd])
  ins := fun m h => by
    unfold jfs at h
    simp only [List.all_cons, List.all_nil, Bool.and_true, Bool.and_eq_true, Bool.not_eq_true', decide_eq_false_iff_not] at h
    obtain ⟨h1, h2, h3, h4, h5, h6, h7⟩ := h
    exact insOf_of (by rw [getF_tl h1, getF_tl h2, getF_tl h3, getF_tl h4, getF_tl h5, getF_tl h6, getF_tl h7, getF_nil])
theorem su_kept {K : List Sm} : gFld "Sums" "kept" (suD K) = .ok (.dat (.list (K.map smD))) := gFld_of (by rw [getF_hd])
theorem su_ins {K : List Sm} {m : Str} (h : ¬ ("kept" : Str) = m) : insOf "Sums" m (suD K) = true := insOf_of (by rw [getF_tl h, getF_nil])
section
variable {J : PyData} {g : List Int} {fk : Folk} {sdl : PyData} {T : Folk} {L : List (Nat × Nat)} {K : List Sm} {pp : PyData}
theorem check_open_ok (j : JIs J g fk sdl T L K .none) : f_Joints_check_open [J] = .ok (.dat .none) := by
  have h := j.paper
  unfold f_Joints_check_open o_Joints_check_open
  refine fnO_nx (ρ := [sd J]) rfl ?_
  refine ifN_f ?_ rfl
  walk_at "es"
theorem lasts_spec (h : ∀ m ∈ K, m.ps ≠ []) (hl : K.length ≤ 1000000) : f_Sums_lasts [suD K] = .ok (.own (.list ((K.map lst).map npD))) := by
  have hk := @su_kept K
  unfold f_Sums_lasts o_Sums_lasts
  refine fnO_rt rfl ?_
  have lc := lcE (fi := iOf (eUn (gFld "Sums" "kept") (eVar 0))) (own := [1]) (bd := bN 1) (fe := eOp gIx (eOp gIx (eVar 1) (eC (.int 0))) (eUn gNeg (eC (.int 1)))) (ρ := [sd (suD K), none]) smD K (fun m => npD (lst m)) (by
    simp only [iOf, eUn, eVar, List.getElem?_cons_zero, bindN_ok, Sl.d_dat, hk, itemsD]) (by omega) fun m hm => by
    refine ⟨_, rfl, .dat (npD (lst m)), ?_, rfl⟩
    have i0 : gIx (smD m) (.int 0) = .ok (.dat (.list (m.ps.map npD))) := gIx_t rfl
    have i1 : gIx (.list (m.ps.map npD)) (.int (-1)) = .ok (.dat (npD (lst m))) := gIx_l (atI_last (getLast_map npD _ (h m hm)))
    simp only [eOp, eUn, eVar, eC, wipeE, List.set_cons_zero, List.set_cons_succ, List.getElem?_cons_zero, List.getElem?_cons_succ, bindN_ok, Sl.d_dat, i0, gNeg_i, retI, i1]
  show oRet _ [sd (suD K), none] = _
  simp only [oRet, lc, oOfN_ok]
  rw [List.map_map]
  rfl
def looseL (L : List (Nat × Nat)) (K : List Sm) : List (Nat × Nat) := L.filter fun p => !decide (p ∈ K.map lst)
theorem np_check : (jfs.all fun f => !decide (f = ("check_open" : Str))) = true := by decide +kernel
theorem np_loose : (jfs.all fun f => !decide (f = ("loose" : Str))) = true := by decide +kernel
theorem np_many : (jfs.all fun f => !decide (f = ("many_ways" : Str))) = true := by decide +kernel
theorem np_barof : (jfs.all fun f => !decide (f = ("bar_of" : Str))) = true := by decide +kernel
theorem nk_lasts : ¬ ("kept" : Str) = "lasts" := by decide +kernel
theorem loose_spec (j : JIs J g fk sdl T L K .none) (h : ∀ m ∈ K, m.ps ≠ []) (hK : K.length ≤ 1000000) (hL : L.length ≤ 1000000) : f_Joints_loose [J] = .ok (.own (.list ((looseL L K).map npD))) := by
  have h1 := check_open_ok j
  have h2 := j.ins _ np_check
  have h3 := j.sums
  have h4 := lasts_spec h hK
  have h5 : insOf "Sums" "lasts" (suD K) = true := su_ins nk_lasts
  have h6 := j.pairs
  unfold f_Joints_loose o_Joints_loose
  refine fnO_rt rfl ?_
  refine seqN (ρ' := [sd J, none, none]) ?_ (seqN (ρ' := [sd J, so (.list ((K.map lst).map npD)), none]) ?_ (fixN ?_))
  · simp only [oExp, eMeth, aNil, eVar, List.map_cons, List.map_nil, List.cons_append, List.getElem?_cons_zero, bindN_ok, Sl.d_dat, h2, if_true, h1, oOfN_ok]
    rfl
  · simp only [oSet, eMeth, eUn, aNil, eVar, List.getElem?_cons_zero, bindN_ok, Sl.d_dat, h3, h5, if_true, h4, oOfN_ok, List.set_cons_zero, List.set_cons_succ]
  · simp only [fixs, Env.fix, List.getElem?_cons_zero, List.getElem?_cons_succ, List.set_cons_zero, List.set_cons_succ]
    have lc := lcG (fi := iOf (eUn (gFld "Joints" "pairs") (eVar 0))) (own := [2]) (bd := bN 2) (tt := tOf (eOp gNotIn (eVar 2) (eVar 1))) (fe := eVar 2) (ρ := [sd J, sd (.list ((K.map lst).map npD)), none]) npD L (fun p => !decide (p ∈ K.map lst)) npD (by
      simp only [iOf, eUn, eVar, List.getElem?_cons_zero, bindN_ok, Sl.d_dat, h6, itemsD]) (by omega) fun p hp => by
      have hn := gNotIn_dn npD 1 dn_npD (by decide) npD_inj p (K.map lst)
      refine ⟨_, rfl, ?_, fun _ => ⟨.dat (npD p), rfl, rfl⟩⟩
      simp only [tOf, eOp, eVar, wipeE, List.set_cons_zero, List.set_cons_succ, List.getElem?_cons_zero, List.getElem?_cons_succ, bindN_ok, Sl.d_dat, hn, retB, isB]
      congr
    simp only [oRet, lc, oOfN_ok]
    rfl
theorem many_exc (j : JIs J g fk sdl T L K pp) (hp : isNoneD pp = false) : f_Joints_many_ways [J] = retI 0 := by
  have h := j.paper
  unfold f_Joints_many_ways o_Joints_many_ways
  refine fnO_rt rfl ?_
  refine oSeq_rt (ifN_t ?_ rfl)
  clear j
  simp only [tOf, eOp, eUn, eVar, eC, List.map_cons, List.map_nil, List.cons_append, List.getElem?_cons_zero, bindN_ok, Sl.d_dat, h, gNotN_n, hp, retB, isB, Bool.not_false]
theorem many_spec (j : JIs J g fk sdl T L K .none) (h : ∀ m ∈ K, m.ps ≠ []) (hK : K.length ≤ 1000000) (hL : L.length ≤ 1000000) : f_Joints_many_ways [J] = retI ((2 ^ (looseL L K).length : Nat) : Int) := by
  have h1 := j.paper
  have h2 := loose_spec j h hK hL
  have h3 := j.ins _ np_loose
  clear j
  unfold f_Joints_many_ways o_Joints_many_ways
  refine fnO_rt rfl ?_
  refine seqN (ρ' := [sd J, none, none]) (ifN_f ?_ rfl) (seqN (ρ' := [sd J, sd (.int 1), none]) rfl ?_)
  · simp only [tOf, eOp, eUn, eVar, eC, List.map_cons, List.map_nil, List.cons_append, List.getElem?_cons_zero, bindN_ok, Sl.d_dat, h1, gNotN_n, isNoneD, retB, isB, Bool.not_true]
  · refine forS npD (looseL L K) (fun pre ρ => ∃ x, ρ = [sd J, sd (.int ((2 ^ pre.length : Nat) : Int)), x]) ?_ ⟨none, rfl⟩ ?_ ?_
    · simp only [iOf, eMeth, aNil, eVar, List.getElem?_cons_zero, bindN_ok, Sl.d_dat, h3, if_true, h2, Sl.d_own, itemsD]
    · rintro pre p post ρ hl ⟨x, rfl⟩
      refine ⟨_, [sd J, sd (.int ((2 ^ (pre ++ [p]).length : Nat) : Int)), sd (npD p)], rfl, .inl ?_, _, rfl⟩
      have h5 : gMul (.int 2) (.int ((2 ^ pre.length : Nat) : Int)) = retI (2 * ((2 ^ pre.length : Nat) : Int)) := gMul_l (by decide) (by decide)
      simp only [oSet, eOp, eC, eVar, bN, List.set_cons_zero, List.set_cons_succ, List.getElem?_cons_zero, List.getElem?_cons_succ, bindN_ok, Sl.d_dat, h5, retI, oOfN_ok]
      rw [List.length_append, List.length_singleton, Nat.pow_succ, Nat.mul_comm, Int.natCast_mul]
      rfl
    · rintro ρ' ⟨x, rfl⟩
      rfl
end
end Dl
/-! Joints.values_of. -/
/-! Joints.told_apart. -/
/-! The kept sums and the numbers of ways. -/
namespace Dl
open PySem PySem.Spec PyProof.Rows L2
def SolF (v : Nat × Nat → Nat) (F : List Fact) : Prop := ∀ f ∈ F, par v (sumPs f) = sumB f
theorem runF_spec (n M : Nat) : ∀ (F : List Fact) (K : List Sm) (k : Nat), Red n M K → (∀ f ∈ F, FactOk n f) → k + F.length ≤ M →
    Red n M (runF K k F).1 ∧ ((runF K k F).2 = none → ∀ v, (∀ m ∈ (runF K k F).1, holds v m) ↔ (∀ m ∈ K, holds v m) ∧ SolF v F) ∧ (∀ md, (runF K k F).2 = some md → ∀ v, ¬ ((∀ m ∈ K, holds v m) ∧ SolF v F))
  | [], K, k, h, _, _ => ⟨h, fun _ v => ⟨fun z => ⟨z, fun f hf => by cases hf⟩, fun z => z.1⟩, fun md e => by cases e⟩
  | f :: F, K, k, h, hf, hk => by
    have f1 := hf f (List.mem_cons_self ..)
    rw [List.length_cons] at hk
    have o : OkS n M (newS (sumPs f) (sumB f) k) := newS_ok f1.1 f1.2 (sumB_lt f) (by omega)
    have hh : ∀ v, holds v (newS (sumPs f) (sumB f) k) ↔ par v (sumPs f) = sumB f := fun v => by
      unfold holds newS
      rw [par_perm (List.mergeSort_perm _ _)]
    unfold runF
    cases e : takeR K (newS (sumPs f) (sumB f) k) with
    | some md =>
      refine ⟨h.takeK o, fun z => by simp at z, fun md' _ v z => ?_⟩
      exact holds_odd (v := v) h o e ⟨z.1, (hh v).mpr (z.2 f (List.mem_cons_self ..))⟩
    | none =>
      obtain ⟨i1, i2, i3⟩ := runF_spec n M F (takeK K (newS (sumPs f) (sumB f) k)) (k + 1) (h.takeK o) (fun x hx => hf x (List.mem_cons_of_mem _ hx)) (by omega)
      have key : ∀ v, ((∀ m ∈ takeK K (newS (sumPs f) (sumB f) k), holds v m) ∧ SolF v F) ↔ ((∀ m ∈ K, holds v m) ∧ SolF v (f :: F)) := fun v => by
        rw [holds_take (v := v) h o e, hh v]
        constructor
        · rintro ⟨⟨a, b⟩, c⟩
          refine ⟨a, fun x hx => ?_⟩
          rcases List.mem_cons.mp hx with rfl | hx
          · exact b
          · exact c x hx
        · rintro ⟨a, b⟩
          exact ⟨⟨a, b f (List.mem_cons_self ..)⟩, fun x hx => b x (List.mem_cons_of_mem _ hx)⟩
      exact ⟨i1, fun z v => (i2 z v).trans (key v), fun md z v w => i3 md z v ((key v).mpr w)⟩
/-! ### numbers -/
section
variable {n M : Nat} {L : List (Nat × Nat)} {K : List Sm}
theorem Red.inj (h : Red n M K) : ∀ x ∈ K, ∀ y ∈ K, lst x ∈ y.ps → x = y := by
  have pw : K.Pairwise fun x y => (lst x ∈ y.ps → x = y) ∧ (lst y ∈ x.ps → y = x) := h.pw.imp fun z => ⟨fun a => absurd a z.1, fun a => absurd a z.2⟩
  have key : ∀ (K : List Sm), (K.Pairwise fun x y => (lst x ∈ y.ps → x = y) ∧ (lst y ∈ x.ps → y = x)) → ∀ x ∈ K, ∀ y ∈ K, lst x ∈ y.ps → x = y := by
    intro K
    induction K with
    | nil => intro _ x hx; cases hx
    | cons a K ih =>
      intro pw x hx y hy z
      rw [List.pairwise_cons] at pw
      rcases List.mem_cons.mp hx with h1 | h1 <;> rcases List.mem_cons.mp hy with h2 | h2
      · rw [h1, h2]
      · rw [h1] at z ⊢
        exact (pw.1 y h2).1 z
      · rw [h2] at z ⊢
        exact (pw.1 x h1).2 z
      · exact ih pw.2 x h1 y h2 z
  exact key K pw
theorem Red.lasts_nodup (h : Red n M K) : (K.map lst).Nodup := by
  refine List.pairwise_map.mpr (h.pw.imp_of_mem fun {x y} _ hy z e => z.1 ?_)
  rw [e]
  exact lst_mem (h.ok y hy).2
end
end Dl
/-! Ways and joints. -/
namespace Dl
open PySem PySem.Spec PyProof.Rows L2
/-- two plain rows make a sight -/
structure Mk2 (n : Nat) (t A B : List Int) : Prop where
  lt : t.length = n
  la : A.length = n
  lb : B.length = n
  pa : plainR A
  pb : plainR B
  se : seen A B = t
section
variable {n : Nat} {t A B : List Int}
theorem Mk2.a (m : Mk2 n t A B) {i : Nat} (hi : i < n) : A.getD i 0 = 0 ∨ A.getD i 0 = 1 := by
  have := getDP A m.pa i (by rw [m.la]; exact hi)
  omega
theorem Mk2.b (m : Mk2 n t A B) {i : Nat} (hi : i < n) : B.getD i 0 = 0 ∨ B.getD i 0 = 1 := by
  have := getDP B m.pb i (by rw [m.lb]; exact hi)
  omega
theorem Mk2.one (m : Mk2 n t A B) {i : Nat} (hi : i < n) (h : ¬ t.getD i 0 = 2) : A.getD i 0 = t.getD i 0 ∧ B.getD i 0 = t.getD i 0 := by
  have h1 := m.a hi
  have e := seen_getD A B (by rw [m.la, m.lb]) i (by rw [m.la]; exact hi)
  rw [m.se] at e
  split at e
  · rename_i z
    exact ⟨e.symm, z.symm.trans e.symm⟩
  · exact absurd e h
theorem mem_showL {r : List Int} {i j : Nat} {p : Int × Int} : p ∈ showL r i j ↔ both2 r (i, j) = false ∧ p.1 ∈ ways (r.getD i 0) ∧ p.2 ∈ ways (r.getD j 0) := by
  unfold showL showsL both2
  by_cases h : r.getD i 0 = 2 ∧ r.getD j 0 = 2
  · rw [if_pos h]
    simp only [h.1, h.2, decide_true, Bool.and_self, List.not_mem_nil, Bool.true_eq_false, false_and]
  · rw [if_neg h]
    have : (decide (r.getD i 0 = 2) && decide (r.getD j 0 = 2)) = false := by
      rw [Bool.and_eq_false_iff, decide_eq_false_iff_not, decide_eq_false_iff_not]
      by_cases h1 : r.getD i 0 = 2
      · exact .inr fun h2 => h ⟨h1, h2⟩
      · exact .inl h1
    simp only [this, true_and]
    simp only [List.mem_flatMap, List.mem_map]
    constructor
    · rintro ⟨a, ha, b, hb, rfl⟩
      exact ⟨ha, hb⟩
    · rintro ⟨ha, hb⟩
      exact ⟨p.1, ha, p.2, hb, rfl⟩
theorem both2_iff {r : List Int} {p : Nat × Nat} : both2 r p = true ↔ r.getD p.1 0 = 2 ∧ r.getD p.2 0 = 2 := by
  unfold both2
  rw [Bool.and_eq_true, decide_eq_true_eq, decide_eq_true_eq]
end
/-! ### folk told apart -/
end Dl
/-! Ways of a company. -/
namespace Dl
open PySem PySem.Spec PyProof.Rows L2
/-- rows that make a sight -/
structure MakeR (n : Nat) (s a b : List Int) : Prop where
  la : a.length = n
  lb : b.length = n
  pa : plainR a
  pb : plainR b
  se : seen a b = s
theorem MakeR.swap {n : Nat} {s a b : List Int} (m : MakeR n s a b) : MakeR n s b a := ⟨m.lb, m.la, m.pb, m.pa, by rw [seen_comm b a]; exact m.se⟩
end Dl
/-! Ways of a company, by number. -/
namespace Dl
open PySem PySem.Spec PyProof.Rows L2
abbrev Prs := List (List Int × List Int)
structure Makes (g : List Int) (fk : Folk) (prs : Prs) : Prop where
  len : prs.length = fk.length
  of : ∀ q ∈ fk.zip prs, MakeR g.length q.1.2 q.2.1 q.2.2
/-- what may be said -/
structure SayOk (n : Nat) (fk : Folk) (s : Said) : Prop where
  lt : s.a < s.b
  n : s.b < n
  ex : ∃ f ∈ fk, f.1 = s.w
  mx : ∀ f ∈ fk, f.1 = s.w → both2 f.2 (s.a, s.b) = true
structure Comp (g : List Int) (fk : Folk) (sd : List Said) : Prop where
  pg : plainR g
  fr : ∀ f ∈ fk, f.2.length = g.length ∧ mixR f.2
  say : ∀ s ∈ sd, SayOk g.length fk s
def bitT (t : Bool) : Nat := if t = true then 0 else 1
section
variable {g : List Int} {fk : Folk} {sd : List Said} {prs : Prs} {x : Nat × Nat → Nat}
def upP (p : List Int × List Int) : List Int × List Int := pairUp p.1 p.2
end
end Dl
/-! Joints, by ways. -/
namespace Dl
open PySem PySem.Spec PyProof.Rows L2
abbrev Lof (g : List Int) (fk : Folk) : List (Nat × Nat) := liveL (fk.map (·.2)) g.length
abbrev Kof (g : List Int) (fk : Folk) (sd : List Said) : List Sm := lookK (toldOf g fk) g.length sd
abbrev Pof (g : List Int) (fk : Folk) (sd : List Said) : PyData := lookP (toldOf g fk) g.length sd
/-- is there a way? -/
def opn (g : List Int) (fk : Folk) (sd : List Said) : Bool := isNoneD (Pof g fk sd)
abbrev Loo (g : List Int) (fk : Folk) (sd : List Said) : List (Nat × Nat) := looseL (Lof g fk) (Kof g fk sd)
def cntW (g : List Int) (fk : Folk) (sd : List Said) : Nat := if opn g fk sd = true then 2 ^ (Loo g fk sd).length else 0
section
variable {g : List Int} {fk : Folk} {sd : List Said} {prs : Prs}
theorem Comp.saidOk (c : Comp g fk sd) : ∀ s ∈ sd, SaidOk g.length s := fun s hs => by
  have k := c.say s hs
  have h1 := k.lt
  have h2 := k.n
  exact ⟨by omega, h2⟩
theorem red_all (c : Comp g fk sd) : Red g.length (factsL (toldOf g fk) g.length sd).length (Kof g fk sd) := by
  have hT := told_ok c.pg c.fr
  have hF := facts_ok (toldOf g fk) g.length sd (fun f hf => (hT f hf).1) c.saidOk
  unfold Kof lookK
  split
  · exact Red.nil _ _
  · exact (runF_spec g.length _ _ [] 0 (Red.nil _ _) hF (by omega)).1
/-- an instance of Joints -/
theorem joD_is (g : List Int) (fk : Folk) (sd : List Said) (hr : ∀ f ∈ fk, f.2.length = g.length) : JIs (joD g fk sd) g fk (.list (sd.map saidD)) (toldOf g fk) (Lof g fk) (Kof g fk sd) (Pof g fk sd) := by
  unfold joD
  rw [live_told hr]
  exact js_is g fk sd _ _ _ _
theorem Red.len {N M : Nat} {K : List Sm} (h : Red N M K) : K.length ≤ N * N := by
  have o : (K.map lst).Nodup := h.lasts_nodup
  have e := List.Nodup.length_le_of_subset o (l₂ := (List.range N).flatMap fun i => (List.range N).map fun j => (i, j)) fun p hp => by
    obtain ⟨m, hm, rfl⟩ := List.mem_map.mp hp
    have := (h.ok m hm).1.n _ (lst_mem (h.ok m hm).2)
    exact List.mem_flatMap.mpr ⟨(lst m).1, List.mem_range.mpr this.1, List.mem_map.mpr ⟨(lst m).2, List.mem_range.mpr this.2, rfl⟩⟩
  rw [List.length_map] at e
  have e2 : ((List.range N).flatMap fun i => (List.range N).map fun j => (i, j)).length = N * N := by
    rw [List.length_flatMap]
    simp only [List.length_map, List.length_range, List.map_const', List.sum_replicate_nat]
  omega
theorem none_of {d : PyData} (h : isNoneD d = true) : d = .none := by
  cases d <;> first | rfl | cases h
/-- Joints told, by the program -/
theorem prog_many (c : Comp g fk sd) (hg : g.length ≤ 1000) : f_Joints_many_ways [joD g fk sd] = retI (cntW g fk sd : Int) := by
  have j := joD_is g fk sd fun f hf => (c.fr f hf).1
  have hR := red_all c
  unfold cntW opn
  cases h : isNoneD (Pof g fk sd) with
  | false => exact many_exc j h
  | true =>
    rw [none_of h] at j
    have h1 := hR.len
    have h2 : (Lof g fk).length ≤ _ := live_len fk g.length
    have h3 : g.length * g.length ≤ 1000 * 1000 := Nat.mul_le_mul hg hg
    exact many_spec j (fun m hm => (hR.ok m hm).2) (by omega) (by omega)
end
end Dl
/-! Names are unlike; what the laws reckon of ways. -/
namespace Dl
open PySem PySem.Spec PyProof.Rows L2
theorem ixL {α : Type} {e : α → PyData} {l : List α} {i : Nat} {a : α} (h : l[i]? = some a) : gIx (.list (l.map e)) (nD i) = .ok (.dat (e a)) :=
  gIx_l (by rw [atI_pos (by omega), Int.toNat_natCast, List.getElem?_map, h]; rfl)
theorem ixT {α : Type} {e : α → PyData} {l : List α} {i : Nat} {a : α} (h : l[i]? = some a) : gIx (.tuple (l.map e)) (nD i) = .ok (.dat (e a)) :=
  gIx_t (by rw [atI_pos (by omega), Int.toNat_natCast, List.getElem?_map, h]; rfl)
theorem ixR {r : List Int} {i : Nat} (h : i < r.length) : gIx (rowD r) (nD i) = .ok (.dat (.int (r.getD i 0))) :=
  ixT (by rw [List.getD_eq_getElem?_getD, List.getElem?_eq_getElem h]; rfl)
theorem ixNs {l : List Nat} {i : Nat} (h : i < l.length) : gIx (.list (l.map nD)) (nD i) = .ok (.dat (nD (l.getD i 0))) :=
  ixL (by rw [List.getD_eq_getElem?_getD, List.getElem?_eq_getElem h]; rfl)
theorem ixI {l : List Int} {i : Nat} (h : i < l.length) : gIx (.list (l.map PyData.int)) (nD i) = .ok (.dat (.int (l.getD i 0))) :=
  ixL (by rw [List.getD_eq_getElem?_getD, List.getElem?_eq_getElem h]; rfl)
/-! ### names -/
theorem abc_at {i : Int} {c : Nat} (h : 0 ≤ i ∧ i < 26) (e : gIx (.str abc) (.int i) = .ok (.dat (.str ⟨#[c]⟩))) : abc.cps.toList[i.toNat]? = some c := by
  have hl : i.toNat < abc.cps.toList.length := by rw [abc_len]; omega
  have : atI abc.cps.toList i = some (abc.cps.toList[i.toNat]) := by
    unfold atI L2.ixN
    rw [if_pos h.1, if_pos (by rw [abc_len]; omega)]
    show abc.cps.toList[i.toNat]? = _
    exact List.getElem?_eq_getElem hl
  have e : (if big abc.length = true then (match atI abc.cps.toList i with
    | some c => retS ⟨#[c]⟩
    | none => Dl.M.stuck) else Dl.M.stuck) = .ok (.dat (.str ⟨#[c]⟩)) := e
  rw [if_pos abc_big, this] at e
  injection e with e
  injection e with e
  injection e with e
  injection e with e
  rw [List.getElem?_eq_getElem hl]
  have := congrArg Array.toList e
  simp only [List.cons.injEq, and_true] at this
  rw [this]
theorem abc_nodup : abc.cps.toList.Nodup := by decide +kernel
theorem name_len {c : Int} (h : c % 2 = 0) (k : Int) : ∃ s, nameS c k = s ∧ (s.length : Int) = 1 + (7 * k + c / 52) % 12 := by
  refine ⟨_, rfl, ?_⟩
  obtain ⟨ch, o1, e1⟩ := abc_ix (c / 2 % 26) (by omega)
  obtain ⟨s, es, e0, e2⟩ := mul_one ch (1 + (7 * k + c / 52) % 12) (by omega)
  have hs : f_law_name [.int c, .int k] = .ok (.dat (.str s)) := by
    clear es
    unfold f_law_name o_law_name
    refine fnO_rt rfl ?_
    refine seqN (by walk_at "e"; rfl) ?_
    refine seqR (ifN_t (by walk_at "es") ?_)
    clear e0
    walk_at "es"
  rw [name_spec] at hs
  injection hs with hs
  injection hs with hs
  injection hs with hs
  rw [hs, es]
  have := len_mul ⟨#[ch]⟩ (1 + (7 * k + c / 52) % 12)
  rw [decide_eq_false (by omega), if_neg (by decide)] at this
  have h1 : (Str.length ⟨#[ch]⟩ : Int) = 1 := rfl
  rw [h1] at this
  omega
theorem name_odd {c : Int} (h : ¬ c % 2 = 0) : ∃ (pre : List Nat) (post : List Nat), ∀ k : Int, ∃ sg, abc.cps.toList[((c / 7488 + 5 * k) % 26).toNat]? = some sg ∧ (nameS c k).cps.toList = pre ++ [sg] ++ post := by
  obtain ⟨ch, o1, e1⟩ := abc_ix (c / 24 % 26) (by omega)
  have hz : 0 < 1 + c / 2 % 12 := by omega
  obtain ⟨s, es, e0, e2⟩ := mul_one ch (1 + c / 2 % 12) (by omega)
  clear es
  have hz2 : 1 + c / 2 % 12 < 18446744073709551616 := by omega
  generalize hat : c / 624 % (1 + c / 2 % 12) = at'
  have b1 := cutS_len s none (some at')
  have b2 := cutS_len s (some (at' + 1)) none
  refine ⟨(cutS s none (some at')).cps.toList, (cutS s (some (at' + 1)) none).cps.toList, fun k => ?_⟩
  obtain ⟨sg, o2, e3⟩ := abc_ix ((c / 7488 + 5 * k) % 26) (by omega)
  refine ⟨sg, abc_at (by omega) e3, ?_⟩
  have g1 := gSl_s (z := s) (lo := none) (hi := some at') (by omega)
  have g2 := gSl_s (z := s) (lo := some (at' + 1)) (hi := none) (by omega)
  have g3 := gAdd_ss (a := cutS s none (some at')) (b := ⟨#[sg]⟩) (by rw [one_len]; omega)
  have g4 := gAdd_ss (a := cutS s none (some at') ++ ⟨#[sg]⟩) (b := cutS s (some (at' + 1)) none) (by rw [app_len, one_len]; omega)
  have hs : f_law_name [.int c, .int k] = .ok (.dat (.str ((cutS s none (some at') ++ ⟨#[sg]⟩) ++ cutS s (some (at' + 1)) none))) := by
    clear o1 o2
    unfold f_law_name o_law_name
    refine fnO_rt rfl ?_
    refine seqN (by walk_at "e"; rfl) ?_
    refine seqN (ifN_f (by clear b1 b2 g1 g2 g3 g4; walk_at "es") rfl) ?_
    clear b1 b2 e0
    walk_at "s"
    walk_at "s"
    walk_at "s"
    walk_at "s"
    walk_at "es"
  rw [name_spec] at hs
  injection hs with hs
  injection hs with hs
  injection hs with hs
  rw [hs]
  have app : ∀ a b : Str, (a ++ b).cps.toList = a.cps.toList ++ b.cps.toList := fun a b => Array.toList_append
  rw [app, app]
theorem name_inj {c i j : Int} (h0 : 0 ≤ i ∧ i < 12) (h1 : 0 ≤ j ∧ j < 12) (e : nameS c i = nameS c j) : i = j := by
  by_cases h : c % 2 = 0
  · obtain ⟨s, e1, l1⟩ := name_len h i
    obtain ⟨t, e2, l2⟩ := name_len h j
    rw [← e1, e, e2] at l1
    omega
  · obtain ⟨pre, post, f⟩ := name_odd h
    obtain ⟨a, a1, a2⟩ := f i
    obtain ⟨b, b1, b2⟩ := f j
    rw [e, b2, List.append_assoc, List.append_assoc] at a2
    have := List.append_cancel_left a2
    simp only [List.singleton_append, List.cons.injEq] at this
    have hab := this.1
    subst hab
    have hi : ((c / 7488 + 5 * i) % 26).toNat < abc.cps.toList.length := by rw [abc_len]; omega
    have hj : ((c / 7488 + 5 * j) % 26).toNat < abc.cps.toList.length := by rw [abc_len]; omega
    have nd := abc_nodup
    have : ((c / 7488 + 5 * i) % 26).toNat = ((c / 7488 + 5 * j) % 26).toNat := by
      apply Classical.byContradiction
      intro ne
      rcases Nat.lt_or_gt_of_ne ne with lt | lt
      · refine List.pairwise_iff_getElem.mp nd _ _ hi hj lt ?_
        rw [List.getElem?_eq_getElem hi] at a1
        rw [List.getElem?_eq_getElem hj] at b1
        exact Option.some.inj (a1.trans b1.symm)
      · refine List.pairwise_iff_getElem.mp nd _ _ hj hi lt ?_
        rw [List.getElem?_eq_getElem hi] at a1
        rw [List.getElem?_eq_getElem hj] at b1
        exact Option.some.inj (b1.trans a1.symm)
    omega
theorem names_nodup {fk : Folk} {c : Int} (hl : fk.length ≤ 12) (h : ∀ i, i < fk.length → (fk.getD i ("", [])).1 = nameS c (i : Int)) : (fk.map (·.1)).Nodup := by
  have e : fk.map (·.1) = (List.range fk.length).map fun (i : Nat) => nameS c (i : Int) := by
    refine List.ext_getElem (by simp) fun i h1 h2 => ?_
    rw [List.length_map] at h1
    have := h i h1
    rw [List.getD_eq_getElem?_getD, List.getElem?_eq_getElem h1] at this
    simp only [List.getElem_map, List.getElem_range]
    exact this
  rw [e]
  refine List.pairwise_map.mpr (List.Pairwise.imp_of_mem (R := (· < ·)) (fun {a b} ha hb hlt z => ?_) List.pairwise_lt_range)
  have ha := List.mem_range.mp ha
  have hb := List.mem_range.mp hb
  have := name_inj (by omega) (by omega) z
  omega
end Dl
/-! What the laws reckon of ways: borne, kept, good, is_pairs. -/
/-! What the laws reckon of ways: kept, good, is_pairs. -/
namespace Dl
open PySem PySem.Spec PyProof.Rows L2
theorem word_is (t : Bool) : gEq (.str (wordS t)) (.str "together") = retB t := by
  rw [gEq_ss]
  cases t with
  | true => exact congrArg retB (decide_eq_true rfl)
  | false => exact congrArg retB (decide_eq_false n_at)
end Dl
/-! is_pairs, sayings. -/
namespace Dl
open PySem PySem.Spec PyProof.Rows L2
theorem getD_mem {l : List Nat} {i : Nat} (h : i < l.length) : l.getD i 0 ∈ l := by
  rw [List.getD_eq_getElem?_getD, List.getElem?_eq_getElem h]
  exact List.getElem_mem h
theorem getD_lt {l : List Nat} (up : l.Pairwise (· < ·)) {i j : Nat} (hij : i < j) (hj : j < l.length) : l.getD i 0 < l.getD j 0 := by
  rw [List.getD_eq_getElem?_getD, List.getD_eq_getElem?_getD, List.getElem?_eq_getElem hj, List.getElem?_eq_getElem (show i < l.length by omega)]
  exact List.pairwise_iff_getElem.mp up i j (by omega) hj hij
theorem sayings_spec (g : List Int) (fk : Folk) (c : Int) (hr : ∀ f ∈ fk, f.2.length = g.length ∧ mixR f.2) (nd : (fk.map (·.1)).Nodup) (hn : g.length ≤ 1000) (hf : fk.length ≤ 1000) : ∃ sdl : List Said, sdl.length ≤ fk.length ∧ (∀ s ∈ sdl, SayOk g.length fk s) ∧ f_law_sayings [.list (fk.map fkD), .int c] = .ok (.own (.list (sdl.map saidD))) := by
  have l1 : -1000000 ≤ (fk.length : Int) := by omega
  have l2 : (fk.length : Int) ≤ 1000000 := by omega
  have hlen : gLen [.list (fk.map fkD)] = retI (fk.length : Int) := by rw [gLen_l, List.length_map]
  obtain ⟨row, r1, r2, r3⟩ := row_spec c (fk.length : Int) 5040 (by omega) (by omega) (by decide) (by decide)
  rw [Int.toNat_natCast] at r1
  have body := forP (fi := iAr (aCons (eCall gLen (aCons (eVar 0) aNil)) aNil) rng1Of) (bd := bN 4) (body := (oSeq (oAsg (eOp gIx (eVar 0) (eVar 4)) (bTup 2 (bCons (bN 6) (bCons (bN 7) bNil))))
    (oSeq (oSet 5 (eLc (iAr (aCons (eCall gLen (aCons (eVar 7) aNil)) aNil) rng1Of) [11] (bN 11) (tOf (eOp gEq (eOp gIx (eVar 7) (eVar 11)) (eC (.int 2)))) (eVar 11)))
    (oFix [3, 5] (oIf (tAndF (tOf (eOp gEq (eOp gMod (eOp gIx (eVar 3) (eVar 4)) (eC (.int 4))) (eC (.int 3)))) (tOf (eOp (gCmp .Gt) (eCall gLen (aCons (eVar 5) aNil)) (eC (.int 1))))) (oSeq (oFix [3, 5] (oSet 8 (eOp gMod (eOp gDiv (eOp gIx (eVar 3) (eVar 4)) (eC (.int 4))) (eCall gLen (aCons (eVar 5) aNil)))))
    (oSeq (oFix [3, 5] (oSet 9 (eOp gMod (eOp gAdd (eOp gAdd (eVar 8) (eC (.int 1))) (eOp gMod (eOp gDiv (eOp gIx (eVar 3) (eVar 4)) (eC (.int 48))) (eOp gSub (eCall gLen (aCons (eVar 5) aNil)) (eC (.int 1))))) (eCall gLen (aCons (eVar 5) aNil)))))
    (oSeq (oFix [3] (oSet 10 (eOp gIx (eLst (aCons (eC (.str "together")) (aCons (eC (.str "apart")) aNil))) (eOp gMod (eOp gDiv (eOp gIx (eVar 3) (eVar 4)) (eC (.int 336))) (eC (.int 2))))))
    (oFix [5] (oMutS (mMut 2 gAppend (aCons (eTup (aCons (eVar 6) (aCons (eCall gMin2 (aCons (eOp gIx (eVar 5) (eVar 8)) (aCons (eOp gIx (eVar 5) (eVar 9)) aNil))) (aCons (eCall gMax2 (aCons (eOp gIx (eVar 5) (eVar 8)) (aCons (eOp gIx (eVar 5) (eVar 9)) aNil))) (aCons (eVar 10) aNil))))) aNil))))))) oNx))))) (ρ := [sd (.list (fk.map fkD)), sd (.int c), so (.list []), so (.list (row.map PyData.int)), none, none, none, none, none, none, none, none]) nD (List.range fk.length)
    (fun pre ρ => ∃ (sdl : List Said) (x3 x4 x5 x6 x7 x8 x9 x10 : Option Sl), sdl.length ≤ pre.length ∧ (∀ s ∈ sdl, SayOk g.length fk s) ∧ (x3 = so (.list (row.map PyData.int)) ∨ x3 = sd (.list (row.map PyData.int))) ∧ ρ = [sd (.list (fk.map fkD)), sd (.int c), so (.list (sdl.map saidD)), x3, x4, x5, x6, x7, x8, x9, x10, none]) (by
      simp only [iAr, aCons, aNil, eCall, eVar, List.getElem?_cons_zero, List.getElem?_cons_succ, bindN_ok, Sl.d_dat, hlen, retI, rng1_i l1 l2, Int.toNat_natCast, rng_map])
    ⟨[], _, _, _, _, _, _, _, _, Nat.le_refl _, (fun s hs => by cases hs), .inl rfl, rfl⟩ (by
      rintro pre k post ρ hl ⟨sdl, x3, x4, x5, x6, x7, x8, x9, x10, h1, h2, hx3, rfl⟩
      have hk : k < fk.length := List.mem_range.mp (by rw [hl]; simp)
      have hpl : pre.length + 1 ≤ fk.length := by
        have := congrArg List.length hl
        rw [List.length_range, List.length_append, List.length_cons] at this
        omega
      have hfm := List.getElem_mem hk
      have hfr := hr _ hfm
      have i1 : gIx (.list (fk.map fkD)) (nD k) = .ok (.dat (fkD fk[k])) := ixL (List.getElem?_eq_getElem hk)
      have i2 := ixI (l := row) (i := k) (by omega)
      have st0 := r2 (row.getD k 0) (by
        rw [List.getD_eq_getElem?_getD, List.getElem?_eq_getElem (show k < row.length by omega)]
        exact List.getElem_mem _)
      generalize row.getD k 0 = st at i2 st0
      have hnm : ∀ f ∈ fk, f.1 = fk[k].1 → f = fk[k] := by
        intro f hf e
        obtain ⟨j, hj, rfl⟩ := List.mem_iff_getElem.mp hf
        have hjk : j = k := by
          apply Classical.byContradiction
          intro ne
          have hj' : j < (fk.map (·.1)).length := by rw [List.length_map]; exact hj
          have hk' : k < (fk.map (·.1)).length := by rw [List.length_map]; exact hk
          rcases Nat.lt_or_gt_of_ne ne with lt | lt
          · exact List.pairwise_iff_getElem.mp nd j k hj' hk' lt (by simpa using e)
          · exact List.pairwise_iff_getElem.mp nd k j hk' hj' lt (by simpa using e.symm)
        subst hjk
        rfl
      generalize fk[k] = f at i1 hfm hfr hnm
      have l3 : -1000000 ≤ (f.2.length : Int) := by omega
      have l4 : (f.2.length : Int) ≤ 1000000 := by omega
      have hlr : gLen [rowD f.2] = retI (f.2.length : Int) := by rw [gLen_t, List.length_map]
      have lc := lcG (fi := iAr (aCons (eCall gLen (aCons (eVar 7) aNil)) aNil) rng1Of) (own := [11]) (bd := bN 11) (tt := tOf (eOp gEq (eOp gIx (eVar 7) (eVar 11)) (eC (.int 2)))) (fe := eVar 11) (ρ := [sd (.list (fk.map fkD)), sd (.int c), so (.list (sdl.map saidD)), x3, sd (nD k), x5, sd (.str f.1), sd (rowD f.2), x8, x9, x10, none]) nD (List.range f.2.length) (fun i => decide (f.2.getD i 0 = 2)) nD (by
        simp only [iAr, aCons, aNil, eCall, eVar, List.getElem?_cons_zero, List.getElem?_cons_succ, bindN_ok, Sl.d_dat, hlr, retI, rng1_i l3 l4, Int.toNat_natCast, rng_map]) (by rw [List.length_range]; omega) fun i hi => by
        have e := ixR (r := f.2) (i := i) (List.mem_range.mp hi)
        refine ⟨_, rfl, ?_, fun _ => ⟨.dat (nD i), rfl, rfl⟩⟩
        simp only [tOf, eOp, eC, eVar, wipeE, List.set_cons_zero, List.set_cons_succ, List.getElem?_cons_zero, List.getElem?_cons_succ, bindN_ok, Sl.d_dat, e, gEq_ii, retB, isB]
      have hmx : (List.range f.2.length).filter (fun i => decide (f.2.getD i 0 = 2)) = mixL f.2 := rfl
      rw [hmx] at lc
      have hml := mixL_len f.2
      have up := mixL_up f.2
      have s1 : (oAsg (eOp gIx (eVar 0) (eVar 4)) (bTup 2 (bCons (bN 6) (bCons (bN 7) bNil)))) [sd (.list (fk.map fkD)), sd (.int c), so (.list (sdl.map saidD)), x3, sd (nD k), x5, x6, x7, x8, x9, x10, none] = .nx [sd (.list (fk.map fkD)), sd (.int c), so (.list (sdl.map saidD)), x3, sd (nD k), x5, sd (.str f.1), sd (rowD f.2), x8, x9, x10, none] := by
        simp only [oAsg, eOp, eVar, List.getElem?_cons_zero, List.getElem?_cons_succ, bindN_ok, Sl.d_dat, i1, oOfN_ok]
        rfl
      have s2 : (oSet 5 (eLc (iAr (aCons (eCall gLen (aCons (eVar 7) aNil)) aNil) rng1Of) [11] (bN 11) (tOf (eOp gEq (eOp gIx (eVar 7) (eVar 11)) (eC (.int 2)))) (eVar 11))) [sd (.list (fk.map fkD)), sd (.int c), so (.list (sdl.map saidD)), x3, sd (nD k), x5, sd (.str f.1), sd (rowD f.2), x8, x9, x10, none] = .nx [sd (.list (fk.map fkD)), sd (.int c), so (.list (sdl.map saidD)), x3, sd (nD k), so (.list ((mixL f.2).map nD)), sd (.str f.1), sd (rowD f.2), x8, x9, x10, none] := by
        simp only [oSet, lc, oOfN_ok, List.set_cons_zero, List.set_cons_succ]
      have hfx : fixs [sd (.list (fk.map fkD)), sd (.int c), so (.list (sdl.map saidD)), x3, sd (nD k), so (.list ((mixL f.2).map nD)), sd (.str f.1), sd (rowD f.2), x8, x9, x10, none] [3, 5] = [sd (.list (fk.map fkD)), sd (.int c), so (.list (sdl.map saidD)), sd (.list (row.map PyData.int)), sd (nD k), sd (.list ((mixL f.2).map nD)), sd (.str f.1), sd (rowD f.2), x8, x9, x10, none] := by
        rcases hx3 with rfl | rfl <;> simp only [fixs, Env.fix, List.getElem?_cons_zero, List.getElem?_cons_succ, List.set_cons_zero, List.set_cons_succ]
      have hlm : gLen [.list ((mixL f.2).map nD)] = retI ((mixL f.2).length : Int) := by rw [gLen_l, List.length_map]
      have fin : ∀ o ρ', (oIf (tAndF (tOf (eOp gEq (eOp gMod (eOp gIx (eVar 3) (eVar 4)) (eC (.int 4))) (eC (.int 3)))) (tOf (eOp (gCmp .Gt) (eCall gLen (aCons (eVar 5) aNil)) (eC (.int 1))))) o oNx) [sd (.list (fk.map fkD)), sd (.int c), so (.list (sdl.map saidD)), sd (.list (row.map PyData.int)), sd (nD k), sd (.list ((mixL f.2).map nD)), sd (.str f.1), sd (rowD f.2), x8, x9, x10, none] = .nx ρ' → (oSeq (oAsg (eOp gIx (eVar 0) (eVar 4)) (bTup 2 (bCons (bN 6) (bCons (bN 7) bNil)))) (oSeq (oSet 5 (eLc (iAr (aCons (eCall gLen (aCons (eVar 7) aNil)) aNil) rng1Of) [11] (bN 11) (tOf (eOp gEq (eOp gIx (eVar 7) (eVar 11)) (eC (.int 2)))) (eVar 11))) (oFix [3, 5] (oIf (tAndF (tOf (eOp gEq (eOp gMod (eOp gIx (eVar 3) (eVar 4)) (eC (.int 4))) (eC (.int 3)))) (tOf (eOp (gCmp .Gt) (eCall gLen (aCons (eVar 5) aNil)) (eC (.int 1))))) o oNx)))) [sd (.list (fk.map fkD)), sd (.int c), so (.list (sdl.map saidD)), x3, sd (nD k), x5, x6, x7, x8, x9, x10, none] = .nx ρ' := by
        intro o ρ' h
        refine seqN s1 (seqN s2 (fixN ?_))
        rw [hfx]
        exact h
      by_cases hc : st % 4 = 3 ∧ 1 < (mixL f.2).length
      · have hM : 0 < (mixL f.2).length := by omega
        have a0 : 0 ≤ st / 4 % ((mixL f.2).length : Int) := Int.emod_nonneg _ (by omega)
        have a1 : st / 4 % ((mixL f.2).length : Int) < ((mixL f.2).length : Int) := Int.emod_lt_of_pos _ (by omega)
        have e0 : 0 ≤ st / 48 % (((mixL f.2).length : Int) - 1) := Int.emod_nonneg _ (by omega)
        have e1 : st / 48 % (((mixL f.2).length : Int) - 1) < ((mixL f.2).length : Int) - 1 := Int.emod_lt_of_pos _ (by omega)
        obtain ⟨a, ha⟩ := Int.eq_ofNat_of_zero_le a0
        obtain ⟨e, he⟩ := Int.eq_ofNat_of_zero_le e0
        rw [ha] at a1
        rw [he] at e1
        have b0 : 0 ≤ ((a : Int) + 1 + (e : Int)) % ((mixL f.2).length : Int) := Int.emod_nonneg _ (by omega)
        have b1 : ((a : Int) + 1 + (e : Int)) % ((mixL f.2).length : Int) < ((mixL f.2).length : Int) := Int.emod_lt_of_pos _ (by omega)
        have bne : ((a : Int) + 1 + (e : Int)) % ((mixL f.2).length : Int) ≠ (a : Int) := by
          intro z
          by_cases hw : (a : Int) + 1 + (e : Int) < ((mixL f.2).length : Int)
          · rw [Int.emod_eq_of_lt (by omega) hw] at z
            omega
          · have : ((a : Int) + 1 + (e : Int)) % ((mixL f.2).length : Int) = (a : Int) + 1 + (e : Int) - ((mixL f.2).length : Int) := by
              rw [← Int.sub_emod_right]
              exact Int.emod_eq_of_lt (by omega) (by omega)
            omega
        obtain ⟨b, hb⟩ := Int.eq_ofNat_of_zero_le b0
        rw [hb] at b1 bne
        have ha1 : a < (mixL f.2).length := by omega
        have hb1 : b < (mixL f.2).length := by omega
        have hab : a ≠ b := by omega
        have ia := ixNs (l := mixL f.2) (i := a) ha1
        have ib := ixNs (l := mixL f.2) (i := b) hb1
        have t1 : (tAndF (tOf (eOp gEq (eOp gMod (eOp gIx (eVar 3) (eVar 4)) (eC (.int 4))) (eC (.int 3)))) (tOf (eOp (gCmp .Gt) (eCall gLen (aCons (eVar 5) aNil)) (eC (.int 1))))) [sd (.list (fk.map fkD)), sd (.int c), so (.list (sdl.map saidD)), sd (.list (row.map PyData.int)), sd (nD k), sd (.list ((mixL f.2).map nD)), sd (.str f.1), sd (rowD f.2), x8, x9, x10, none] = .ok true := by
          have hgt : decide (((mixL f.2).length : Int) > 1) = true := decide_eq_true (by omega)
          simp only [tAndF, tOf, eOp, eC, eCall, aCons, aNil, eVar, List.getElem?_cons_zero, List.getElem?_cons_succ, bindN_ok, Sl.d_dat, i2, gMod_ii (show (0 : Int) < 4 by decide), retI, gEq_ii, hc.1, decide_true, retB, isB, if_true, hlm, gCmp_ii, cmpI, hgt]
        have dm : gMod (.int (st / 4)) (nD (mixL f.2).length) = .ok (.dat (nD a)) := (gMod_ii (by omega)).trans (by rw [ha])
        have dm2 : gMod (.int (st / 48)) (.int (((mixL f.2).length : Int) - 1)) = .ok (.dat (nD e)) := (gMod_ii (by omega)).trans (by rw [he])
        have dm3 : gMod (.int ((a : Int) + 1 + (e : Int))) (nD (mixL f.2).length) = .ok (.dat (nD b)) := (gMod_ii (by omega)).trans (by rw [hb])
        have fx : ∀ x8 x9 x10 (l : List Nat), (∀ i ∈ l, i = 3 ∨ i = 5) → fixs [sd (.list (fk.map fkD)), sd (.int c), so (.list (sdl.map saidD)), sd (.list (row.map PyData.int)), sd (nD k), sd (.list ((mixL f.2).map nD)), sd (.str f.1), sd (rowD f.2), x8, x9, x10, none] l = [sd (.list (fk.map fkD)), sd (.int c), so (.list (sdl.map saidD)), sd (.list (row.map PyData.int)), sd (nD k), sd (.list ((mixL f.2).map nD)), sd (.str f.1), sd (rowD f.2), x8, x9, x10, none] := by
          intro x8 x9 x10 l
          induction l with
          | nil => intro _; rfl
          | cons i l ih =>
            intro h
            rcases h i (List.mem_cons_self ..) with rfl | rfl
            · exact ih fun j hj => h j (List.mem_cons_of_mem _ hj)
            · exact ih fun j hj => h j (List.mem_cons_of_mem _ hj)
        obtain ⟨t, ht⟩ : ∃ t, gIx (.list [.str "together", .str "apart"]) (.int (st / 336 % 2)) = .ok (.dat (.str (wordS t))) := by
          rcases (show st / 336 % 2 = 0 ∨ st / 336 % 2 = 1 by omega) with h | h <;> rw [h]
          · exact ⟨true, rfl⟩
          · exact ⟨false, rfl⟩
        have hbig : ∀ d : PyData, gAppend (sdl.map saidD) [d] = some (sdl.map saidD ++ [d], .none) := fun d => gAppend_1 (by rw [List.length_map]; omega)
        refine ⟨[sd (.list (fk.map fkD)), sd (.int c), so (.list (sdl.map saidD)), x3, sd (nD k), x5, x6, x7, x8, x9, x10, none], [sd (.list (fk.map fkD)), sd (.int c), so (.list ((sdl ++ [(⟨f.1, min ((mixL f.2).getD a 0) ((mixL f.2).getD b 0), max ((mixL f.2).getD a 0) ((mixL f.2).getD b 0), t⟩ : Said)]).map saidD)), sd (.list (row.map PyData.int)), sd (nD k), sd (.list ((mixL f.2).map nD)), sd (.str f.1), sd (rowD f.2), sd (nD a), sd (nD b), sd (.str (wordS t)), none], rfl, .inl (fin _ _ (ifN_t t1 ?_)), _, _, _, _, _, _, _, _, _, ?_, ?_, .inr rfl, rfl⟩
        · refine seqN (ρ' := [sd (.list (fk.map fkD)), sd (.int c), so (.list (sdl.map saidD)), sd (.list (row.map PyData.int)), sd (nD k), sd (.list ((mixL f.2).map nD)), sd (.str f.1), sd (rowD f.2), sd (nD a), x9, x10, none]) (fixN ?_) ?_
          · rw [fx _ _ _ _ (by simp)]
            simp only [oSet, eOp, eC, eCall, aCons, aNil, eVar, List.getElem?_cons_zero, List.getElem?_cons_succ, bindN_ok, Sl.d_dat, i2, gDiv_ii (show (0 : Int) < 4 by decide) (show (4 : Int) < 18446744073709551616 by decide), retI, hlm, dm, oOfN_ok, List.set_cons_zero, List.set_cons_succ]
          refine seqN (ρ' := [sd (.list (fk.map fkD)), sd (.int c), so (.list (sdl.map saidD)), sd (.list (row.map PyData.int)), sd (nD k), sd (.list ((mixL f.2).map nD)), sd (.str f.1), sd (rowD f.2), sd (nD a), sd (nD b), x10, none]) (fixN ?_) ?_
          · rw [fx _ _ _ _ (by simp)]
            simp only [oSet, eOp, eC, eCall, aCons, aNil, eVar, List.getElem?_cons_zero, List.getElem?_cons_succ, bindN_ok, Sl.d_dat, i2, gDiv_ii (show (0 : Int) < 48 by decide) (show (48 : Int) < 18446744073709551616 by decide), retI, hlm, gSub_ii, dm2, gAdd_ii, dm3, oOfN_ok, List.set_cons_zero, List.set_cons_succ]
          refine seqN (ρ' := [sd (.list (fk.map fkD)), sd (.int c), so (.list (sdl.map saidD)), sd (.list (row.map PyData.int)), sd (nD k), sd (.list ((mixL f.2).map nD)), sd (.str f.1), sd (rowD f.2), sd (nD a), sd (nD b), sd (.str (wordS t)), none]) (fixN ?_) (fixN ?_)
          · rw [fx _ _ _ _ (by simp)]
            have hb2 : ∀ a b : PyData, big [a, b].length = true := fun _ _ => rfl
            simp only [oSet, eOp, eC, eLst, aCons, aNil, eVar, List.getElem?_cons_zero, List.getElem?_cons_succ, bindN_ok, Sl.d_dat, Sl.d_own, i2, gDiv_ii (show (0 : Int) < 336 by decide) (show (336 : Int) < 18446744073709551616 by decide), retI, gMod_ii (show (0 : Int) < 2 by decide), hb2, if_true, ht, oOfN_ok, List.set_cons_zero, List.set_cons_succ]
          · rw [fx _ _ _ _ (by simp)]
            have hmn : gMin2 [nD ((mixL f.2).getD a 0), nD ((mixL f.2).getD b 0)] = .ok (.dat (nD (min ((mixL f.2).getD a 0) ((mixL f.2).getD b 0)))) := by
              rw [gMin2_ii]
              congr 2
              congr 1
              omega
            have hmx : gMax2 [nD ((mixL f.2).getD a 0), nD ((mixL f.2).getD b 0)] = .ok (.dat (nD (max ((mixL f.2).getD a 0) ((mixL f.2).getD b 0)))) := by
              rw [gMax2_ii]
              congr 2
              congr 1
              omega
            have hb4 : ∀ a b c d : PyData, big [a, b, c, d].length = true := fun _ _ _ _ => rfl
            simp only [oMutS, mMut, eTup, eOp, eCall, aCons, aNil, eVar, List.getElem?_cons_zero, List.getElem?_cons_succ, bindN_ok, Sl.d_dat, ia, ib, hmn, hmx, hb4, if_true, hbig, oOfN_ok, List.set_cons_zero, List.set_cons_succ, List.map_append, List.map_cons, List.map_nil]
        · rw [List.length_append, List.length_append, List.length_singleton, List.length_singleton]
          omega
        · intro s hs
          rcases List.mem_append.mp hs with hs | hs
          · exact h2 s hs
          · rw [List.mem_singleton] at hs
            subst hs
            have ma := mem_mixL.mp (getD_mem ha1)
            have mb := mem_mixL.mp (getD_mem hb1)
            have hlt : (mixL f.2).getD a 0 ≠ (mixL f.2).getD b 0 := by
              rcases Nat.lt_or_gt_of_ne hab with lt | lt
              · have := getD_lt up lt hb1
                omega
              · have := getD_lt up lt ha1
                omega
            refine ⟨by show min _ _ < max _ _; omega, by show max _ _ < _; omega, ⟨f, hfm, rfl⟩, fun q hq eq => ?_⟩
            have eq : q.1 = f.1 := eq
            rw [hnm q hq eq]
            refine both2_iff.mpr ⟨?_, ?_⟩
            · show f.2.getD (min _ _) 0 = 2
              rcases Nat.le_total ((mixL f.2).getD a 0) ((mixL f.2).getD b 0) with h | h
              · rw [Nat.min_eq_left h]; exact ma.2
              · rw [Nat.min_eq_right h]; exact mb.2
            · show f.2.getD (max _ _) 0 = 2
              rcases Nat.le_total ((mixL f.2).getD a 0) ((mixL f.2).getD b 0) with h | h
              · rw [Nat.max_eq_right h]; exact mb.2
              · rw [Nat.max_eq_left h]; exact ma.2
      · have t1 : (tAndF (tOf (eOp gEq (eOp gMod (eOp gIx (eVar 3) (eVar 4)) (eC (.int 4))) (eC (.int 3)))) (tOf (eOp (gCmp .Gt) (eCall gLen (aCons (eVar 5) aNil)) (eC (.int 1))))) [sd (.list (fk.map fkD)), sd (.int c), so (.list (sdl.map saidD)), sd (.list (row.map PyData.int)), sd (nD k), sd (.list ((mixL f.2).map nD)), sd (.str f.1), sd (rowD f.2), x8, x9, x10, none] = .ok false := by
          simp only [tAndF, tOf, eOp, eC, eCall, aCons, aNil, eVar, List.getElem?_cons_zero, List.getElem?_cons_succ, bindN_ok, Sl.d_dat, i2, gMod_ii (show (0 : Int) < 4 by decide), retI, gEq_ii, retB, isB]
          by_cases h : st % 4 = 3
          · have hgt : decide (((mixL f.2).length : Int) > 1) = false := decide_eq_false (fun z => hc ⟨h, by omega⟩)
            simp only [h, decide_true, if_true, hlm, retI, bindN_ok, Sl.d_dat, gCmp_ii, cmpI, hgt, retB, isB]
          · simp only [h, decide_false, Bool.false_eq_true, if_false]
        exact ⟨[sd (.list (fk.map fkD)), sd (.int c), so (.list (sdl.map saidD)), x3, sd (nD k), x5, x6, x7, x8, x9, x10, none], _, rfl, .inl (fin _ _ (ifN_f t1 rfl)), sdl, _, _, _, _, _, _, _, _, by rw [List.length_append, List.length_singleton]; omega, h2, .inr rfl, rfl⟩)
  obtain ⟨ρ', k1, sdl, x3, x4, x5, x6, x7, x8, x9, x10, h1, h2, _, rfl⟩ := body
  rw [List.length_range] at h1
  refine ⟨sdl, h1, h2, ?_⟩
  unfold f_law_sayings o_law_sayings
  refine fnO_rt rfl ?_
  refine seqN (ρ' := [sd (.list (fk.map fkD)), sd (.int c), so (.list []), none, none, none, none, none, none, none, none, none]) rfl ?_
  refine seqN (ρ' := [sd (.list (fk.map fkD)), sd (.int c), so (.list []), so (.list (row.map PyData.int)), none, none, none, none, none, none, none, none]) ?_ ?_
  · simp only [oSet, eCall, aCons, aNil, eC, eVar, List.getElem?_cons_zero, List.getElem?_cons_succ, bindN_ok, Sl.d_dat, hlen, retI, r3, oOfN_ok, List.set_cons_zero, List.set_cons_succ]
  exact seqN k1 rfl
end Dl
/-! A company of the laws and its Joints. -/
namespace Dl
open PySem PySem.Spec PyProof.Rows L2
/-- a company of the laws -/
theorem comp_of {g : List Int} {L : List (List Int)} {prs : Prs} {fk : Folk} (T : Truth g L prs) (hr : ∀ q ∈ fk, q.2.length = g.length ∧ mixR q.2) {sdl : List Said} (hs : ∀ s ∈ sdl, SayOk g.length fk s) : Comp g fk sdl := ⟨T.plain, hr, hs⟩
theorem new_spec {g : List Int} {fk : Folk} {sdl : List Said} (c : Comp g fk sdl) (hn : g.length ≤ 40) (hf : fk.length ≤ 100) (hs : sdl.length ≤ 1000) : gNew "Joints" f2_Joints_init__ [rowD g, .list (fk.map fkD), .list (sdl.map saidD)] = .ok (.dat (joD g fk sdl)) :=
  (joints_new g fk sdl c.pg hn c.fr hf hs c.saidOk).1
theorem jo_ins {g : List Int} {fk : Folk} {sdl : List Said} {m : Str} (h : (jfs.all fun f => !decide (f = m)) = true) : insOf "Joints" m (joD g fk sdl) = true := by
  unfold joD
  exact (js_is _ _ _ _ _ _ _).ins m h
end Dl
/-! Joints.number_in. -/
namespace Dl
open PySem PySem.Spec PyProof.Rows L2
/-! ### makes_all -/
def PlainPrs (prs : Prs) : Prop := ∀ p ∈ prs, plainR p.1 ∧ plainR p.2
section
variable {J : PyData} {g : List Int} {fk : Folk} {sdl : PyData} {T : Folk} {L : List (Nat × Nat)} {K : List Sm} {pp : PyData}
/-! ### keeps_said -/
def dS (es : List (Str × List Int)) : List (PyData × PyData) := es.map fun p => (PyData.str p.1, rowD p.2)
def sget (es : List (Str × List Int)) (s : Str) : Option (List Int) := (es.find? fun q => decide (q.1 = s)).map (·.2)
theorem isDK_dS (es : List (Str × List Int)) : isDK (dS es) = true := by cases es <;> rfl
theorem isKK_s (a b : Str) (d : PyData) : isKK (.inr b) (PyData.str a, d) = decide (a = b) := by
  have := isKK_ent (.inr a) (.inr b) d
  rw [show ((keyD (.inr a), d)) = (PyData.str a, d) from rfl] at this
  rw [this]
  exact decide_eq_decide.mpr (by simp)
theorem getK_dS (es : List (Str × List Int)) (s : Str) : getK (dS es) (.inr s) = (sget es s).map rowD := by
  induction es with
  | nil => rfl
  | cons q es ih =>
    unfold getK sget dS at *
    rw [List.map_cons]
    by_cases h : q.1 = s
    · subst h
      simp only [List.find?_cons, isKK_s, decide_true, Option.map_some]
    · simp only [List.find?_cons, isKK_s, h, decide_false]
      exact ih
theorem gGetK_s {es : List (Str × List Int)} {s : Str} {v : List Int} (h : sget es s = some v) : gGetK (.dict (dS es)) (.str s) = .ok (.dat (rowD v)) := by
  unfold gGetK
  simp only [isDK_dS, if_true, keyV, getK_dS, h, Option.map_some]
theorem putD_dS (es : List (Str × List Int)) (s : Str) (v : List Int) (h : s ∉ es.map (·.1)) : putD (dS es) (.inr s) (rowD v) = dS (es ++ [(s, v)]) := by
  have : (dS es).any (isKK (.inr s)) = false := by
    rw [List.any_eq_false]
    intro x hx
    obtain ⟨q, hq, rfl⟩ := List.mem_map.mp hx
    rw [isKK_s]
    simp only [decide_eq_true_eq]
    intro e
    exact h (List.mem_map.mpr ⟨q, hq, e⟩)
  unfold putD
  rw [this, if_neg (by decide)]
  unfold dS
  rw [List.map_append]
  rfl
end
end Dl
/-! Joints.number_in: the number. -/
/-! Numbers of ways: number_in, the order. -/
namespace Dl
open PySem PySem.Spec PyProof.Rows L2
section
variable {g : List Int} {fk : Folk} {sdl : List Said} {prs : Prs}
theorem Makes.plain (m : Makes g fk prs) : PlainPrs prs := by
  intro p hp
  have : prs = (fk.zip prs).map (·.2) := (List.map_snd_zip (by have := m.len; omega)).symm
  rw [this] at hp
  obtain ⟨q, hq, rfl⟩ := List.mem_map.mp hp
  have mk := m.of q hq
  exact ⟨mk.pa, mk.pb⟩
/-! ### the order -/
end
end Dl
/-! Sorted values; the number of a told way. -/
/-! Tellings drawn by a law: what is split, what is turned, what is bent. -/
namespace Dl
open PySem PySem.Spec PyProof.Rows L2
/-- all that `lw` rewrites with -/
theorem LWt : type_of% @Dl.tOrF.eq_1 ∧ type_of% @Dl.tAndF.eq_1 ∧ type_of% @Dl.tNotF.eq_1 ∧ type_of% @Dl.tOf.eq_1 ∧ type_of% @Dl.eOp.eq_1 ∧ type_of% @Dl.eUn.eq_1 ∧ type_of% @Dl.eC.eq_1 ∧ type_of% @Dl.eVar.eq_1 ∧ type_of% @Dl.eCall.eq_1 ∧ type_of% @Dl.eMeth.eq_1 ∧ type_of% @Dl.eTup.eq_1 ∧ type_of% @Dl.eLst.eq_1 ∧ type_of% @Dl.eIf.eq_1 ∧ type_of% @Dl.eAndV.eq_1 ∧ type_of% @Dl.eOrV.eq_1 ∧ type_of% @Dl.eNotV.eq_1 ∧ type_of% @Dl.aCons.eq_1 ∧ type_of% @Dl.aNil.eq_1 ∧ (∀ {α : Type} {a : α} {l : List α}, (a :: l)[0]? = some a) ∧ (∀ {α : Type} {a : α} {i : Nat} {l : List α}, (a :: l)[i + 1]? = l[i]?) ∧ type_of% @Dl.bindN_ok ∧ type_of% @Dl.Sl.d_dat ∧ type_of% @Dl.Sl.d_own ∧ type_of% @Dl.retI.eq_1 ∧ type_of% @Dl.retB.eq_1 ∧ type_of% @Dl.isB.eq_1 ∧ (∀ {α : Type} {h : Decidable True} (t e : α), @ite α True h t e = t) ∧ (∀ {α : Type} {h : Decidable False} (t e : α), @ite α False h t e = e) ∧ ((false = true) = False) ∧ type_of% @Dl.oOfN_ok ∧ (∀ {α : Type} {x : α} {xs : List α} {a : α}, (x :: xs).set 0 a = a :: xs) ∧ (∀ {α : Type} {x : α} {xs : List α} {n : Nat} {a : α}, (x :: xs).set (n + 1) a = x :: xs.set n a) ∧ type_of% @Dl.fixs.eq_1 ∧ type_of% @Dl.fixs.eq_2 ∧ type_of% @Dl.Env.fix.eq_1 ∧ type_of% @Dl.oSet.eq_1 ∧ type_of% @Dl.oRet.eq_1 ∧ type_of% @Dl.oMutS.eq_1 ∧ type_of% @Dl.mMut.eq_1 :=
  ⟨@Dl.tOrF.eq_1, @Dl.tAndF.eq_1, @Dl.tNotF.eq_1, @Dl.tOf.eq_1, @Dl.eOp.eq_1, @Dl.eUn.eq_1, @Dl.eC.eq_1, @Dl.eVar.eq_1, @Dl.eCall.eq_1, @Dl.eMeth.eq_1, @Dl.eTup.eq_1, @Dl.eLst.eq_1, @Dl.eIf.eq_1, @Dl.eAndV.eq_1, @Dl.eOrV.eq_1, @Dl.eNotV.eq_1, @Dl.aCons.eq_1, @Dl.aNil.eq_1, (fun {_ _ _} => List.getElem?_cons_zero), (fun {_ _ _ _} => List.getElem?_cons_succ), @Dl.bindN_ok, @Dl.Sl.d_dat, @Dl.Sl.d_own, @Dl.retI.eq_1, @Dl.retB.eq_1, @Dl.isB.eq_1, (fun t e => if_true t e), (fun t e => if_false t e), Bool.false_eq_true, @Dl.oOfN_ok, (fun {_ _ _ _} => List.set_cons_zero), (fun {_ _ _ _ _} => List.set_cons_succ), @Dl.fixs.eq_1, @Dl.fixs.eq_2, @Dl.Env.fix.eq_1, @Dl.oSet.eq_1, @Dl.oRet.eq_1, @Dl.oMutS.eq_1, @Dl.mMut.eq_1⟩
theorem getD_el {α : Type} (l : List α) (d : α) {i : Nat} (h : i < l.length) : l.getD i d = l[i] := by
  rw [List.getD_eq_getElem?_getD, List.getElem?_eq_getElem h]
  rfl
theorem range_pre {n k : Nat} {pre post : List Nat} (h : List.range n = pre ++ k :: post) : k = pre.length ∧ k < n := by
  have h1 : (List.range n)[pre.length]? = some k := by
    rw [h, List.getElem?_append_right (Nat.le_refl _), Nat.sub_self]
    rfl
  have h2 : pre.length < n := by
    have := congrArg List.length h
    rw [List.length_range, List.length_append, List.length_cons] at this
    omega
  rw [List.getElem?_range h2] at h1
  have := Option.some.inj h1
  omega
/-- the first m pairs make the sights of the first m folk -/
structure TlOk (g : List Int) (fk : Folk) (m : Nat) (tl : Prs) : Prop where
  len : tl.length = m
  of : ∀ i, i < m → MakeR g.length (fk.getD i ("", [])).2 (tl.getD i ([], [])).1 (tl.getD i ([], [])).2 ∧ upP (tl.getD i ([], [])) = tl.getD i ([], [])
theorem TlOk.nil {g : List Int} {fk : Folk} : TlOk g fk 0 [] := ⟨rfl, fun i h => by omega⟩
theorem TlOk.snoc {g : List Int} {fk : Folk} {m : Nat} {tl : Prs} (t : TlOk g fk m tl) {p : List Int × List Int} (h : MakeR g.length (fk.getD m ("", [])).2 p.1 p.2) (hu : upP p = p) : TlOk g fk (m + 1) (tl ++ [p]) := by
  refine ⟨by rw [List.length_append, t.len]; rfl, fun i hi => ?_⟩
  rw [List.getD_eq_getElem?_getD (l := tl ++ [p])]
  by_cases h2 : i < m
  · rw [List.getElem?_append_left (by rw [t.len]; exact h2), ← List.getD_eq_getElem?_getD]
    exact t.of i h2
  · have : i = m := by omega
    subst this
    rw [List.getElem?_append_right (by rw [t.len]; exact Nat.le_refl _), t.len, Nat.sub_self]
    exact ⟨h, hu⟩
theorem TlOk.makes {g : List Int} {fk : Folk} {tl : Prs} (t : TlOk g fk fk.length tl) : Makes g fk tl := by
  refine ⟨t.len, fun q hq => ?_⟩
  obtain ⟨i, hi, rfl⟩ := List.mem_iff_getElem.mp hq
  rw [List.length_zip] at hi
  rw [List.getElem_zip]
  have := (t.of i (by omega)).1
  rw [getD_el fk _ (by omega), getD_el tl _ (by omega)] at this
  exact this
end Dl
/-! Tellings turned, tellings bent. -/
namespace Dl
open PySem PySem.Spec PyProof.Rows L2
abbrev swapP (p : List Int × List Int) : List Int × List Int := (p.2, p.1)
def Turn (hd tl : Prs) : Prop := hd.length = tl.length ∧ ∀ i, i < tl.length → hd.getD i ([], []) = tl.getD i ([], []) ∨ hd.getD i ([], []) = swapP (tl.getD i ([], []))
theorem Turn.refl (tl : Prs) : Turn tl tl := ⟨rfl, fun i hi => .inl rfl⟩
theorem Turn.symm {hd tl : Prs} (h : Turn hd tl) : Turn tl hd := ⟨h.1.symm, fun i hi => by
  rcases h.2 i (by rw [← h.1]; exact hi) with e | e
  · exact .inl e.symm
  · exact .inr (by rw [e])⟩
theorem Turn.zip {hd tl : Prs} (h : Turn hd tl) {fk : Folk} {q : (Str × List Int) × (List Int × List Int)} (hq : q ∈ fk.zip hd) : ∃ p, (q.1, p) ∈ fk.zip tl ∧ (q.2 = p ∨ q.2 = swapP p) := by
  obtain ⟨i, hi, rfl⟩ := List.mem_iff_getElem.mp hq
  rw [List.length_zip] at hi
  have l := h.1
  have hz : i < (fk.zip tl).length := by rw [List.length_zip]; omega
  refine ⟨tl[i], ?_, ?_⟩
  · have := List.getElem_mem hz
    rw [List.getElem_zip] at this ⊢
    exact this
  · rw [List.getElem_zip]
    have := h.2 i (by omega)
    rw [getD_el hd _ (by omega), getD_el tl _ (by omega)] at this
    exact this
section
variable {g : List Int} {fk : Folk} {sdl : List Said} {hd tl : Prs}
theorem Turn.makes (h : Turn hd tl) (m : Makes g fk tl) : Makes g fk hd := by
  refine ⟨h.1.trans m.len, fun q hq => ?_⟩
  obtain ⟨p, hp, e⟩ := h.zip hq
  have := m.of _ hp
  rcases e with e | e
  · rw [e]
    exact this
  · rw [e]
    exact this.swap
/-! ### bent -/
end
end Dl
/-! The true rows of a company are a way. -/
namespace Dl
open PySem PySem.Spec PyProof.Rows L2
theorem boolsOf_l {α : Type} (l : List α) (p : α → Bool) : boolsOf (l.map fun a => .bool (p a)) = some (l.map p) := by
  induction l with
  | nil => rfl
  | cons x xs ih =>
    rw [List.map_cons, boolsOf, ih]
    rfl
theorem gAny_l {α : Type} (l : List α) (p : α → Bool) : gAllAny (fun bs => bs.any id) [.list (l.map fun a => .bool (p a))] = retB (l.any p) := by
  unfold gAllAny
  simp only [boolsOf_l, List.any_map]
  rfl
theorem bar_of_spec {J : PyData} {g : List Int} {fk : Folk} {sdl : PyData} {T : Folk} {L : List (Nat × Nat)} {K : List Sm} {pp : PyData} (j : JIs J g fk sdl T L K pp) : f_Joints_bar_of [J] = .ok (.dat pp) := by
  have h := j.paper
  unfold f_Joints_bar_of o_Joints_bar_of
  refine fnO_rt rfl ?_
  simp only [oRet, eUn, eVar, List.map_cons, List.map_nil, List.cons_append, List.getElem?_cons_zero, bindN_ok, Sl.d_dat, h, oOfN_ok]
theorem prog_bar {g : List Int} {fk : Folk} {sdl : List Said} (c : Comp g fk sdl) : f_Joints_bar_of [joD g fk sdl] = .ok (.dat (Pof g fk sdl)) :=
  bar_of_spec (joD_is g fk sdl fun f hf => (c.fr f hf).1)
theorem cnt_pos {g : List Int} {fk : Folk} {sdl : List Said} : decide ((cntW g fk sdl : Int) > 0) = opn g fk sdl := by
  unfold cntW
  cases opn g fk sdl with
  | false => rfl
  | true =>
    have := Nat.two_pow_pos (Loo g fk sdl).length
    rw [if_pos rfl]
    exact decide_eq_true (by omega)
end Dl
/-! Parts of a company; sayings or none. -/
/-! Companies by their solutions. -/
/-! Solutions by the sights alone. -/
namespace Dl
open PySem PySem.Spec PyProof.Rows L2
/-- some sight shows the pair p there -/
def shE (g : List Int) (S : List (List Int)) (i j : Nat) (p : Int × Int) : Prop := ∃ r ∈ S, p ∈ showL (ag r g) i j
def three3 (t : List Int) (x : Nat × Nat → Nat) : Prop := ∀ m0 l, mixL t = m0 :: l → ∀ p ∈ pairsG l, (x (m0, p.1) + x (m0, p.2) + x (p.1, p.2)) % 2 = 0
structure SolS (g : List Int) (S : List (List Int)) (sd : List Said) (x : Nat × Nat → Nat) : Prop where
  cl : ∀ p ∈ pairsL g.length, ¬ (shE g S p.1 p.2 (0, 1) ∧ shE g S p.1 p.2 (1, 0) ∧ shE g S p.1 p.2 (1, 1))
  th : ∀ r ∈ S, three3 (ag r g) x
  fo : ∀ p ∈ liveL (S.map fun r => ag r g) g.length, (shE g S p.1 p.2 (1, 1) → x p = 0) ∧ (¬ shE g S p.1 p.2 (1, 1) → shE g S p.1 p.2 (0, 1) → shE g S p.1 p.2 (1, 0) → x p = 1)
  sa : ∀ s ∈ sd, x (s.a, s.b) = bitT s.t
section
variable {g g' : List Int} {fk fk' : Folk} {sd sd' : List Said} {x y : Nat × Nat → Nat}
theorem live_mem {S : List (List Int)} {n : Nat} {p : Nat × Nat} : p ∈ liveL S n ↔ p ∈ pairsL n ∧ ∃ r ∈ S, both2 r p = true := by
  unfold liveL
  rw [List.mem_filter, List.any_eq_true]
theorem live_sub {S S' : List (List Int)} {n : Nat} (h : ∀ r ∈ S, r ∈ S') {p : Nat × Nat} (hp : p ∈ liveL S n) : p ∈ liveL S' n := by
  obtain ⟨a, r, b, c⟩ := live_mem.mp hp
  exact live_mem.mpr ⟨a, r, h r b, c⟩
theorem SolS.mono {S S' : List (List Int)} (hs : ∀ r ∈ S, r ∈ S') (hd : ∀ s ∈ sd, ∃ t ∈ sd', t.a = s.a ∧ t.b = s.b ∧ t.t = s.t) (h : SolS g S' sd' x) : SolS g S sd x := by
  have em : ∀ {i j : Nat} {p : Int × Int}, shE g S i j p → shE g S' i j p := fun ⟨r, hr, z⟩ => ⟨r, hs r hr, z⟩
  refine ⟨fun p hp z => h.cl p hp ⟨em z.1, em z.2.1, em z.2.2⟩, fun r hr => h.th r (hs r hr), fun p hp => ?_, fun s hs => ?_⟩
  · have hp' : p ∈ liveL (S'.map fun r => ag r g) g.length := live_sub (fun r hr => by
      obtain ⟨q, hq, rfl⟩ := List.mem_map.mp hr
      exact List.mem_map_of_mem (hs q hq)) hp
    have hpl := (live_mem.mp hp).1
    exact ⟨fun z => (h.fo p hp').1 (em z), fun n a b => (h.fo p hp').2 (fun z => h.cl p hpl ⟨em a, em b, z⟩) (em a) (em b)⟩
  · obtain ⟨t, ht, a, b, c⟩ := hd s hs
    have := h.sa t ht
    rw [a, b, c] at this
    exact this
end
end Dl
/-! Loose and live pairs, as the program tells them. -/
/-! surely -/
/-! Who bears a row; the values of two companies. -/
namespace Dl
open PySem PySem.Spec PyProof.Rows L2
/-! ### dict(folk) -/
theorem sget_mem : ∀ {es : List (Str × List Int)} {f : Str × List Int}, (es.map (·.1)).Nodup → f ∈ es → sget es f.1 = some f.2
  | [], _, _, h => by cases h
  | q :: es, f, nd, h => by
    rw [List.map_cons, List.nodup_cons] at nd
    unfold sget
    rcases List.mem_cons.mp h with h | h
    · subst h
      rw [List.find?_cons_of_pos (by simp)]
      rfl
    · have ne : ¬ q.1 = f.1 := fun z => nd.1 (z ▸ List.mem_map_of_mem h)
      rw [List.find?_cons_of_neg (by simpa using ne)]
      exact sget_mem nd.2 h
/-! ### fits -/
/-! ### bearing -/
end Dl
/-! What an odd bar is made of. -/
namespace Dl
open PySem PySem.Spec PyProof.Rows L2
def ind (S : List (Nat × Nat)) (p : Nat × Nat) : Nat := if p ∈ S then 1 else 0
def f0 : Fact := .joined 0 0 ""
def fAt (F : List Fact) (k : Nat) : Fact := F.getD k f0
/-- a sum is that of the facts it is made of -/
structure Made (F : List Fact) (m : Sm) : Prop where
  ps : ∀ p, ind m.ps p = par (fun k => ind (sumPs (fAt F k)) p) m.md
  b : m.b = par (fun k => sumB (fAt F k)) m.md
theorem md_nodup {N M : Nat} {m : Sm} (o : OkS N M m) : m.md.Nodup := o.t.imp fun h => Nat.ne_of_lt h
theorem ind_unl {A B : List (Nat × Nat)} (p : Nat × Nat) : ind (unl leP A B) p = (ind A p + ind B p) % 2 := by
  unfold ind
  by_cases h1 : p ∈ A <;> by_cases h2 : p ∈ B <;> simp [unl_mem, h1, h2]
theorem made_add {N M : Nat} {F : List Fact} {r m : Sm} (hr : OkS N M r) (hm : OkS N M m) (a : Made F r) (b : Made F m) : Made F (addS r m) := by
  refine ⟨fun p => ?_, ?_⟩
  · show ind (unl leP r.ps m.ps) p = par _ (unl leN r.md m.md)
    rw [ind_unl, par_unl _ (md_nodup hr) (md_nodup hm), a.ps, b.ps]
  · show (r.b + m.b) % 2 = par _ (unl leN r.md m.md)
    rw [par_unl _ (md_nodup hr) (md_nodup hm), a.b, b.b]
theorem made_lessen {N M : Nat} {F : List Fact} : ∀ (K : List Sm) {r : Sm}, (∀ m ∈ K, OkS N M m) → OkS N M r → (∀ m ∈ K, Made F m) → Made F r → Made F (lessen K r)
  | [], _, _, _, _, h => h
  | m :: K, r, hk, hr, h, hm => by
    have h1 := hk m (List.mem_cons_self ..)
    have h2 := h m (List.mem_cons_self ..)
    refine made_lessen K (r := if lst m ∈ r.ps then addS r m else r) (fun x hx => hk x (List.mem_cons_of_mem _ hx)) ?_ (fun x hx => h x (List.mem_cons_of_mem _ hx)) ?_
    · split
      · exact hr.add h1
      · exact hr
    · split
      · exact made_add hr h1 hm h2
      · exact hm
theorem made_takeK {N M : Nat} {F : List Fact} {K : List Sm} {r : Sm} (h : Red N M K) (hr : OkS N M r) (hk : ∀ m ∈ K, Made F m) (hm : Made F r) : ∀ m ∈ takeK K r, Made F m := by
  have ok := fun m hm => (h.ok m hm).1
  have om := OkS.lessen K ok hr
  have ml := made_lessen K ok hr hk hm
  unfold takeK
  split
  · exact hk
  · intro x hx
    rcases List.mem_append.mp hx with hx | hx
    · obtain ⟨y, hy, rfl⟩ := List.mem_map.mp hx
      unfold freed
      split
      · exact made_add (ok y hy) om (hk y hy) ml
      · exact hk y hy
    · rw [List.mem_singleton] at hx
      subst hx
      exact ml
theorem made_new (F : List Fact) (k : Nat) : Made F (newS (sumPs (fAt F k)) (sumB (fAt F k)) k) := by
  refine ⟨fun p => ?_, ?_⟩
  · have e : ind (newS (sumPs (fAt F k)) (sumB (fAt F k)) k).ps p = ind (sumPs (fAt F k)) p := by
      unfold ind newS
      simp
    rw [e]
    show _ = par _ [k]
    unfold par ind
    split <;> simp_all
  · show sumB (fAt F k) = par _ [k]
    have := sumB_lt (fAt F k)
    unfold par
    simp only [List.map_cons, List.map_nil, List.sum_cons, List.sum_nil]
    omega
/-- what makes 0 odd -/
structure OddL (F : List Fact) (md : List Nat) : Prop where
  lt : ∀ k ∈ md, k < F.length
  nd : md.Nodup
  ps : ∀ p, par (fun k => ind (sumPs (fAt F k)) p) md = 0
  b : par (fun k => sumB (fAt F k)) md = 1
theorem odd_take {N M : Nat} {F : List Fact} {K : List Sm} {r : Sm} {md : List Nat} (hM : M = F.length) (h : Red N M K) (hr : OkS N M r) (hk : ∀ m ∈ K, Made F m) (hm : Made F r) (e : takeR K r = some md) : OddL F md := by
  have ok := fun m hm => (h.ok m hm).1
  have om := OkS.lessen K ok hr
  have ml := made_lessen K ok hr hk hm
  unfold takeR at e
  split at e
  · rename_i hz
    cases e
    refine ⟨fun k hk => by rw [← hM]; exact om.m k hk, md_nodup om, fun p => ?_, ?_⟩
    · rw [← ml.ps p, hz.1]
      rfl
    · rw [← ml.b, hz.2]
  · cases e
theorem runF_odd {n : Nat} {F : List Fact} (hok : ∀ f ∈ F, FactOk n f) : ∀ (post pre : List Fact) (K K' : List Sm) (md : List Nat), F = pre ++ post → Red n F.length K → (∀ m ∈ K, Made F m) → runF K pre.length post = (K', some md) → OddL F md
  | [], pre, K, K', md, e, hK, hm, h => by cases h
  | f :: post, pre, K, K', md, e, hK, hm, h => by
    have hfo : FactOk n f := hok f (by rw [e]; simp)
    have hlt : pre.length < F.length := by rw [e]; simp
    have hr := newS_ok (M := F.length) (k := pre.length) hfo.1 hfo.2 (sumB_lt f) hlt
    have hf : fAt F pre.length = f := by
      unfold fAt
      rw [e, List.getD_eq_getElem?_getD, List.getElem?_append_right (Nat.le_refl _), Nat.sub_self]
      rfl
    have hn := made_new F pre.length
    rw [hf] at hn
    unfold runF at h
    cases ht : takeR K (newS (sumPs f) (sumB f) pre.length) with
    | some md' =>
      rw [ht] at h
      cases h
      exact odd_take rfl hK hr hm hn ht
    | none =>
      rw [ht] at h
      refine runF_odd hok post (pre ++ [f]) _ K' md (by rw [e]; simp) (hK.takeK hr) (made_takeK hK hr hm hn) ?_
      rw [List.length_append, List.length_singleton]
      exact h
theorem odd_of {n : Nat} {F : List Fact} (hok : ∀ f ∈ F, FactOk n f) {md : List Nat} (h : (runF [] 0 F).2 = some md) : OddL F md := by
  refine runF_odd hok F [] [] (runF [] 0 F).1 md rfl (Red.nil _ _) (fun m hm => by cases hm) ?_
  show runF [] 0 F = _
  rw [← h]
/-! ### the law's own telling: a list of pairs, each put in or taken out -/
def tog (L : List (Nat × Nat)) (p : Nat × Nat) : List (Nat × Nat) := if p ∈ L then L.erase p else L ++ [p]
theorem tog_nd {L : List (Nat × Nat)} {p : Nat × Nat} (h : L.Nodup) : (tog L p).Nodup := by
  unfold tog
  split
  · exact h.erase p
  · rename_i hn
    rw [List.nodup_append]
    refine ⟨h, by simp, fun x hx y hy e => ?_⟩
    rw [List.mem_singleton] at hy
    rw [e, hy] at hx
    exact hn hx
theorem tog_ind {L : List (Nat × Nat)} {p q : Nat × Nat} (h : L.Nodup) : ind (tog L p) q = (ind L q + if q = p then 1 else 0) % 2 := by
  unfold tog ind
  by_cases hp : p ∈ L
  · rw [if_pos hp]
    by_cases hq : q = p
    · subst hq
      rw [if_neg (h.not_mem_erase), if_pos hp, if_pos rfl]
    · rw [if_neg hq]
      by_cases hm : q ∈ L
      · rw [if_pos hm, if_pos ((List.mem_erase_of_ne hq).mpr hm)]
      · rw [if_neg hm, if_neg (fun z => hm ((List.mem_erase_of_ne hq).mp z))]
  · rw [if_neg hp]
    by_cases hq : q = p
    · subst hq
      rw [if_pos (by simp), if_neg hp, if_pos rfl]
    · rw [if_neg hq]
      by_cases hm : q ∈ L
      · rw [if_pos hm, if_pos (by simp [hm])]
      · rw [if_neg hm, if_neg (by simp [hm, hq])]
def togs (L : List (Nat × Nat)) (l : List (Nat × Nat)) : List (Nat × Nat) := l.foldl tog L
theorem togs_len : ∀ (l L : List (Nat × Nat)), (togs L l).length ≤ L.length + l.length
  | [], L => Nat.le_refl _
  | p :: l, L => by
    have h := togs_len l (tog L p)
    have h2 : (tog L p).length ≤ L.length + 1 := by
      unfold tog
      split
      · have := List.length_erase_le (a := p) (l := L); omega
      · simp
    show (togs (tog L p) l).length ≤ _
    rw [List.length_cons]
    omega
theorem togs_ok : ∀ (l L : List (Nat × Nat)) (q : Nat × Nat), L.Nodup → l.Nodup → (togs L l).Nodup ∧ ind (togs L l) q = (ind L q + ind l q) % 2
  | [], L, q, h, _ => ⟨h, by unfold togs ind; by_cases hq : q ∈ L <;> simp [hq]⟩
  | p :: l, L, q, h, hl => by
    rw [List.nodup_cons] at hl
    obtain ⟨h1, h2⟩ := togs_ok l (tog L p) q (tog_nd h) hl.2
    refine ⟨h1, ?_⟩
    show ind (togs (tog L p) l) q = _
    rw [h2, tog_ind h]
    have : ind (p :: l) q = (if q = p then 1 else 0) + ind l q := by
      unfold ind
      by_cases e : q = p
      · subst e
        simp [hl.1]
      · simp [e]
    rw [this]
    omega
/-- all facts' pairs told -/
def leftL (F : List Fact) (ks : List Nat) : List (Nat × Nat) := ks.foldl (fun L k => togs L (sumPs (fAt F k))) []
theorem leftL_app (F : List Fact) (ks : List Nat) (k : Nat) : leftL F (ks ++ [k]) = togs (leftL F ks) (sumPs (fAt F k)) := by
  unfold leftL
  rw [List.foldl_append]
  rfl
theorem par_snoc (v : Nat → Nat) (ks : List Nat) (k : Nat) : par v (ks ++ [k]) = (par v ks + v k) % 2 := by
  rw [par_app]
  unfold par
  simp
theorem leftL_ok {n : Nat} {F : List Fact} (hok : ∀ f ∈ F, FactOk n f) (ks : List Nat) (h : ∀ k ∈ ks, k < F.length) : (leftL F ks).Nodup ∧ ∀ q, ind (leftL F ks) q = par (fun k => ind (sumPs (fAt F k)) q) ks := by
  have hnd : ∀ k, k < F.length → (sumPs (fAt F k)).Nodup := fun k hk => by
    refine (hok _ ?_).1
    unfold fAt
    rw [List.getD_eq_getElem?_getD, List.getElem?_eq_getElem hk]
    exact List.getElem_mem hk
  suffices H : ∀ (post pre : List Nat), ks = pre ++ post → ((leftL F pre).Nodup ∧ ∀ q, ind (leftL F pre) q = par (fun k => ind (sumPs (fAt F k)) q) pre) → (leftL F ks).Nodup ∧ ∀ q, ind (leftL F ks) q = par (fun k => ind (sumPs (fAt F k)) q) ks from H ks [] rfl ⟨List.nodup_nil, fun q => rfl⟩
  intro post
  induction post with
  | nil =>
    intro pre e hp
    rw [List.append_nil] at e
    subst e
    exact hp
  | cons k post ih =>
    intro pre e hp
    refine ih (pre ++ [k]) (by rw [e]; simp) ?_
    rw [leftL_app]
    have hk := hnd k (h k (by rw [e]; simp))
    refine ⟨(togs_ok _ _ (0, 0) hp.1 hk).1, fun q => ?_⟩
    rw [(togs_ok _ _ q hp.1 hk).2, par_snoc, hp.2]
theorem leftL_nil {n : Nat} {F : List Fact} (hok : ∀ f ∈ F, FactOk n f) {md : List Nat} (o : OddL F md) : leftL F md = [] := by
  obtain ⟨_, h⟩ := leftL_ok hok md o.lt
  refine List.eq_nil_iff_forall_not_mem.mpr fun q hq => ?_
  have h1 := h q
  rw [o.ps q] at h1
  unfold ind at h1
  rw [if_pos hq] at h1
  cases h1
theorem leftL_len {n : Nat} {F : List Fact} (hok : ∀ f ∈ F, FactOk n f) (ks : List Nat) : (leftL F ks).length ≤ 3 * ks.length := by
  suffices H : ∀ (post pre : List Nat), ks = pre ++ post → (leftL F pre).length ≤ 3 * pre.length → (leftL F ks).length ≤ 3 * ks.length from H ks [] rfl (Nat.le_refl _)
  intro post
  induction post with
  | nil =>
    intro pre e hp
    rw [List.append_nil] at e
    subst e
    exact hp
  | cons k post ih =>
    intro pre e hp
    refine ih (pre ++ [k]) (by rw [e]; simp) ?_
    rw [leftL_app]
    have := togs_len (sumPs (fAt F k)) (leftL F pre)
    have h3 : (sumPs (fAt F k)).length ≤ 3 := by cases fAt F k <;> simp [sumPs]
    rw [List.length_append, List.length_singleton]
    omega
end Dl
/-! Bars walked fact by fact: the law's own looks at a fact. -/
namespace Dl
open PySem PySem.Spec PyProof.Rows L2
theorem marks_up (F : PyData) (ms : List Nat) (a n : Nat) (hl : ms.length ≤ 10) (ha : a ≤ 10) (hix : ∀ k, k < ms.length → gIx F (nD (a + k)) = .ok (.dat (nD (ms.getD k 0)))) (hn : ∀ k, k < ms.length → ms.getD k 0 < n) (hs : ∀ k, k + 1 < ms.length → ms.getD k 0 < ms.getD (k + 1) 0) :
    f_law_marks_v3 [F, nD a, nD ms.length, nD n] = .ok (.dat (.bool true)) := by
  unfold f_law_marks_v3 o_law_marks_v3
  refine fnO_rt rfl ?_
  show oSeq _ _ [sd F, sd (nD a), sd (nD ms.length), sd (nD n), none] = _
  refine forS nD (List.range ms.length) (fun pre ρ => ∃ x4, ρ = [sd F, sd (nD a), sd (nD ms.length), sd (nD n), x4]) ?_ ⟨none, rfl⟩ ?_ ?_
  · simp only [Dl.LWt, iAr, rng1_i (show -1000000 ≤ (ms.length : Int) by omega) (show (ms.length : Int) ≤ 1000000 by omega), Int.toNat_natCast, rng_map]
  · rintro pre k post ρ hkl ⟨x4, rfl⟩
    obtain ⟨_, hk⟩ := range_pre hkl
    have i1 : gIx F (.int ((a : Int) + (k : Int))) = .ok (.dat (nD (ms.getD k 0))) := by
      have := hix k hk
      rwa [show nD (a + k) = .int ((a : Int) + (k : Int)) from by show PyData.int ((a + k : Nat) : Int) = _; rw [Int.natCast_add]] at this
    have w := whole_spec ((ms.getD k 0 : Nat) : Int)
    have d1 : decide (((ms.getD k 0 : Nat) : Int) < 0) = false := decide_eq_false (by omega)
    have h2 := hn k hk
    have d2 : decide (((ms.getD k 0 : Nat) : Int) ≥ (n : Int)) = false := decide_eq_false (by omega)
    refine ⟨_, _, rfl, .inl (seqN (ifN_f (g := oNx) ?_ rfl) (ifN_f (g := oNx) ?_ rfl)), _, rfl⟩
    · simp only [Dl.LWt, gAdd_ii, i1, w, gCmp_ii, cmpI, d1, d2, Bool.not_true]
    · by_cases k0 : k = 0
      · subst k0
        simp only [Dl.LWt, gCmp_ii, cmpI]
        rfl
      · have d3 : decide ((k : Int) > 0) = true := decide_eq_true (by omega)
        have i2 : gIx F (.int ((a : Int) + (k : Int) - 1)) = .ok (.dat (nD (ms.getD (k - 1) 0))) := by
          have := hix (k - 1) (by omega)
          rwa [show nD (a + (k - 1)) = .int ((a : Int) + (k : Int) - 1) from by show PyData.int ((a + (k - 1) : Nat) : Int) = _; congr 1; omega] at this
        have h3 := hs (k - 1) (by omega)
        rw [show k - 1 + 1 = k by omega] at h3
        have d4 : decide (((ms.getD (k - 1) 0 : Nat) : Int) ≥ ((ms.getD k 0 : Nat) : Int)) = false := decide_eq_false (by omega)
        simp only [Dl.LWt, gCmp_ii, cmpI, d3, gAdd_ii, gSub_ii, i1, i2, d4]
  · rintro ρ ⟨x4, rfl⟩
    simp only [Dl.LWt]
/-- what surely stands at two marks -/
theorem lshows (r : List Int) (i j : Nat) (x y : Int) (hi : i < r.length) (hj : j < r.length) (h : (x, y) ∈ showL r i j) : f_law_shows [rowD r, nD i, nD j, .tuple [.int x, .int y]] = .ok (.dat (.bool true)) := by
  obtain ⟨h1, h2, h3⟩ := mem_showL.mp h
  have i1 := ixR hi
  have i2 := ixR hj
  have t1 : gIx (.tuple [.int x, .int y]) (.int 0) = .ok (.dat (.int x)) := gIx_t rfl
  have t2 : gIx (.tuple [.int x, .int y]) (.int 1) = .ok (.dat (.int y)) := gIx_t rfl
  have w : ∀ u v : Int, v ∈ ways u → (decide (v = u) || decide (2 = u)) = true := by
    intro u v hv
    unfold ways at hv
    split at hv
    · rename_i e
      rw [e]
      simp
    · rw [List.mem_singleton] at hv
      simp [hv]
  have w1 : (decide (x = r.getD i 0) || decide (2 = r.getD i 0)) = true := w _ _ h2
  have w2 : (decide (y = r.getD j 0) || decide (2 = r.getD j 0)) = true := w _ _ h3
  have hb : (decide (r.getD i 0 = 2) && decide (r.getD j 0 = 2)) = false := h1
  have hbg : ∀ a b : PyData, big [a, b].length = true := fun _ _ => rfl
  clear h2 h3 w h h1
  generalize r.getD i 0 = u at *
  generalize r.getD j 0 = v at *
  unfold f_law_shows o_law_shows
  refine fnO_rt rfl ?_
  show oSeq _ _ [sd (rowD r), sd (nD i), sd (nD j), sd (.tuple [.int x, .int y])] = _
  refine seqN (ρ' := [sd (rowD r), sd (nD i), sd (nD j), sd (.tuple [.int x, .int y])]) (ifN_f ?_ rfl) ?_
  · by_cases hu : u = 2
    · have hv : decide (v = 2) = false := by rw [decide_eq_true hu, Bool.true_and] at hb; exact hb
      simp only [Dl.LWt, i1, i2, gEq_ii, decide_eq_true hu, hv]
    · simp only [Dl.LWt, i1, i2, gEq_ii, decide_eq_false hu]
  · simp only [Dl.LWt, i1, i2, t1, t2, hbg, gIn_ii, w1, w2]
    try rfl
/-- the folk told, a dict -/
abbrev tdD (T : Folk) : PyData := .dict (dS T)
theorem gInK_s (T : Folk) (w : Str) : gInK (.str w) (tdD T) = retB (sget T w).isSome := by
  unfold gInK gInKB
  simp only [isDK_dS, if_true, keyV, getK_dS, Option.isSome_map]
  exact bindN_ok
theorem gNotInK_s (T : Folk) (w : Str) : gNotInK (.str w) (tdD T) = retB (!(sget T w).isSome) := by
  unfold gNotInK gInKB
  simp only [isDK_dS, if_true, keyV, getK_dS, Option.isSome_map]
  exact bindN_ok
theorem gGetL_s {T : Folk} {s : Str} {v : List Int} (h : sget T s = some v) : gGetL (lkD (dS T)) (.str s) = .ok (.dat (rowD v)) := by
  unfold gGetL
  simp only [keyV, getK_dS, h, Option.map_some]
theorem keysL_s (T : Folk) : keysL (lkD (dS T)) = .ok (T.map fun f => .str f.1) := by
  unfold keysL dS
  simp only [List.map_map]
  rfl
theorem immA_dS (T : Folk) : immA ((dS T).map (·.2)) = true := by
  induction T with
  | nil => rfl
  | cons f T ih =>
    show (imm (rowD f.2) && immA ((dS T).map (·.2))) = true
    rw [ih, imm_tup, immA_ints]
    rfl
theorem live_here (T : Folk) (n i j : Nat) (nd : (T.map (·.1)).Nodup) (hr : ∀ f ∈ T, f.2.length = n) (hi : i < n) (hj : j < n) (hl : T.length ≤ 1000000) : f_law_live_here [tdD T, nD i, nD j] = .ok (.dat (.bool (T.any fun f => both2 f.2 (i, j)))) := by
  have lc := lcE (fi := iKeysL 0) (own := [3]) (bd := bN 3) (fe := eAndV (eOp gEq (eOp gIx (eOp gGetL (eVar 0) (eVar 3)) (eVar 1)) (eC (.int 2))) (eOp gEq (eOp gIx (eOp gGetL (eVar 0) (eVar 3)) (eVar 2)) (eC (.int 2)))) (ρ := [sd (lkD (dS T)), sd (nD i), sd (nD j), none]) (fun f : Str × List Int => .str f.1) T (fun f => .bool (both2 f.2 (i, j))) (by
      simp only [Dl.LWt, iKeysL, keysL_s]) (by omega) fun f hf => by
    have hg := gGetL_s (sget_mem nd hf)
    have hlen := hr f hf
    have i1 := ixR (r := f.2) (i := i) (by omega)
    have i2 := ixR (r := f.2) (i := j) (by omega)
    refine ⟨_, rfl, .dat (.bool (both2 f.2 (i, j))), ?_, rfl⟩
    unfold both2
    by_cases h2 : f.2.getD i 0 = 2
    · simp only [Dl.LWt, wipeE, hg, i1, i2, gEq_ii, decide_eq_true h2, Bool.true_and]
    · simp only [Dl.LWt, wipeE, hg, i1, i2, gEq_ii, decide_eq_false h2, Bool.false_and]
  have ha := gAny_l T fun f => both2 f.2 (i, j)
  have he : lkEnv [sd (tdD T), sd (nD i), sd (nD j), none] 0 (dS T) = [sd (lkD (dS T)), sd (nD i), sd (nD j), none] := by
    simp only [lkEnv, List.map_cons, List.map_nil, immE, imm_int, if_true, List.set_cons_zero]
  unfold f_law_live_here o_law_live_here
  refine fnO_rt rfl ?_
  have key : eLk 0 (eCall (gAllAny fun bs => bs.any id) (aCons (eLc (iKeysL 0) [3] (bN 3) (fun _ => .ok true) (eAndV (eOp gEq (eOp gIx (eOp gGetL (eVar 0) (eVar 3)) (eVar 1)) (eC (.int 2))) (eOp gEq (eOp gIx (eOp gGetL (eVar 0) (eVar 3)) (eVar 2)) (eC (.int 2))))) aNil)) [sd (tdD T), sd (nD i), sd (nD j), none] = .ok (.dat (.bool (T.any fun f => both2 f.2 (i, j)))) := by
    unfold eLk
    simp only [List.getElem?_cons_zero, isDK_dS, immA_dS, Bool.and_self, if_true, he]
    simp only [Dl.LWt, lc, ha]
    rfl
  show oRet _ [sd (tdD T), sd (nD i), sd (nD j), none] = _
  unfold oRet
  rw [key]
  rfl
end Dl
/-! Bars walked fact by fact: each fact is one of the company. -/
namespace Dl
open PySem PySem.Spec PyProof.Rows L2
inductive FactIn (T : Folk) (n : Nat) (sd : List Said) : Fact → Prop where
  | three {w : Str} {r : List Int} {a b c : Nat} : (w, r) ∈ T → a < b → b < c → c < n → r.getD a 0 = 2 → r.getD b 0 = 2 → r.getD c 0 = 2 → FactIn T n sd (.three w a b c)
  | joined {a b : Nat} {w : Str} {r : List Int} : a < b → b < n → (T.any fun f => both2 f.2 (a, b)) = true → (w, r) ∈ T → ((1 : Int), (1 : Int)) ∈ showL r a b → FactIn T n sd (.joined a b w)
  | parted {a b : Nat} {w1 w2 : Str} {r1 r2 : List Int} : a < b → b < n → (T.any fun f => both2 f.2 (a, b)) = true → (w1, r1) ∈ T → ((0 : Int), (1 : Int)) ∈ showL r1 a b → (w2, r2) ∈ T → ((1 : Int), (0 : Int)) ∈ showL r2 a b → FactIn T n sd (.parted a b w1 w2)
  | said {s : Said} : s ∈ sd → FactIn T n sd (saidF s)
theorem first_who {T : Folk} {i j : Nat} {p : Int × Int} {w : Str} (h : firstOf (sayL T i j) p = some w) : ∃ r, (w, r) ∈ T ∧ p ∈ showL r i j := by
  unfold firstOf at h
  obtain ⟨q, hq, rfl⟩ := Option.map_eq_some_iff.mp h
  have h1 := List.mem_of_find?_eq_some hq
  have h2 := List.find?_some hq
  rw [decide_eq_true_eq] at h2
  unfold sayL at h1
  obtain ⟨f, hf, h3⟩ := List.mem_flatMap.mp h1
  obtain ⟨p', hp', rfl⟩ := List.mem_map.mp h3
  cases h2
  exact ⟨f.2, hf, hp'⟩
theorem facts_in (T : Folk) (n : Nat) (sd : List Said) (hr : ∀ f ∈ T, f.2.length = n) : ∀ f ∈ factsL T n sd, FactIn T n sd f := by
  intro f hf
  unfold factsL at hf
  rcases List.mem_append.mp hf with hf | hf
  · rcases List.mem_append.mp hf with hf | hf
    · obtain ⟨q, hq, hf⟩ := List.mem_flatMap.mp hf
      have hl := hr q hq
      have up := mixL_up q.2
      unfold threeL at hf
      split at hf
      · cases hf
      · rename_i a l e
        obtain ⟨p, hp, rfl⟩ := List.mem_map.mp hf
        rw [e, List.pairwise_cons] at up
        obtain ⟨z1, z2, z3⟩ := (mem_pairsG up.2).mp hp
        have h1 := (mem_mixL (r := q.2) (i := a)).mp (by rw [e]; simp)
        have h2 := (mem_mixL (r := q.2) (i := p.1)).mp (by rw [e]; exact List.mem_cons_of_mem _ z1)
        have h3 := (mem_mixL (r := q.2) (i := p.2)).mp (by rw [e]; exact List.mem_cons_of_mem _ z2)
        exact .three (r := q.2) hq (up.1 _ z1) z3 (by omega) h1.2 h2.2 h3.2
    · unfold forcedL at hf
      obtain ⟨p, hp, hf⟩ := List.mem_flatMap.mp hf
      have hm := mem_pairsL'.mp (List.mem_filter.mp hp).1
      have hv := (List.mem_filter.mp hp).2
      rw [List.any_map] at hv
      unfold forcedAt at hf
      split at hf
      · rename_i w hw
        rw [List.mem_singleton] at hf
        subst hf
        obtain ⟨r, k1, k2⟩ := first_who hw
        exact .joined hm.1 hm.2 hv k1 k2
      · split at hf
        · rename_i w1 w2 hw1 hw2
          rw [List.mem_singleton] at hf
          subst hf
          obtain ⟨r1, k1, k2⟩ := first_who hw1
          obtain ⟨r2, k3, k4⟩ := first_who hw2
          exact .parted hm.1 hm.2 hv k1 k2 k3 k4
        · cases hf
  · obtain ⟨s, hs', rfl⟩ := List.mem_map.mp hf
    exact .said hs'
/-! ### looks of the law -/
structure Told (T : Folk) (n : Nat) : Prop where
  nd : (T.map (·.1)).Nodup
  rl : ∀ f ∈ T, f.2.length = n
  ln : T.length ≤ 1000
theorem Told.get {T : Folk} {n : Nat} (t : Told T n) {w : Str} {r : List Int} (h : (w, r) ∈ T) : gGetK (tdD T) (.str w) = .ok (.dat (rowD r)) := gGetK_s (sget_mem t.nd h)
theorem Told.isin {T : Folk} {n : Nat} (t : Told T n) {w : Str} {r : List Int} (h : (w, r) ∈ T) : gInK (.str w) (tdD T) = retB true := by rw [gInK_s, show sget T w = some r from sget_mem t.nd h]; rfl
theorem Told.notin {T : Folk} {n : Nat} (t : Told T n) {w : Str} {r : List Int} (h : (w, r) ∈ T) : gNotInK (.str w) (tdD T) = retB false := by rw [gNotInK_s, show sget T w = some r from sget_mem t.nd h]; rfl
theorem bg2 (a b : PyData) : big [a, b].length = true := rfl
theorem bg1 (a : PyData) : big [a].length = true := rfl
theorem bg3 (a b c : PyData) : big [a, b, c].length = true := rfl
theorem joined_yes {T : Folk} {n : Nat} (t : Told T n) {f : Fact} {sd0 : List Said} (h : FactIn T n sd0 f) (hk : (∃ a b w, f = .joined a b w) ∨ ∃ a b w1 w2, f = .parted a b w1 w2) : f_law_joined [tdD T, factD f] = .ok (.dat (.bool true)) := by
  cases h with
  | three _ _ _ _ _ _ _ => rcases hk with ⟨_, _, _, h⟩ | ⟨_, _, _, _, h⟩ <;> cases h
  | said _ => rcases hk with ⟨_, _, _, h⟩ | ⟨_, _, _, _, h⟩ <;> cases h
  | joined h1 h2 h3 h4 h5 =>
    rename_i a b w r
    have lv := live_here T n a b t.nd t.rl (by omega) h2 (by have := t.ln; omega)
    rw [h3] at lv
    have hl : r.length = n := t.rl _ h4
    have sh := lshows r a b 1 1 (by omega) (by omega) h5
    have i0 : gIx (factD (.joined a b w)) (.int 0) = .ok (.dat (.str "joined")) := gIx_t rfl
    have i1 : gIx (factD (.joined a b w)) (.int 1) = .ok (.dat (nD a)) := gIx_t rfl
    have i2 : gIx (factD (.joined a b w)) (.int 2) = .ok (.dat (nD b)) := gIx_t rfl
    have i3 : gIx (factD (.joined a b w)) (.int 3) = .ok (.dat (.str w)) := gIx_t rfl
    have e0 : gEq (.str "joined") (.str "joined") = retB true := by rw [gEq_ss, decide_eq_true rfl]
    have hin := t.isin h4
    have hget := t.get h4
    generalize factD (.joined a b w) = F at *
    generalize tdD T = D at *
    unfold f_law_joined o_law_joined
    refine fnO_rt rfl ?_
    show oSeq _ _ [sd D, sd F] = _
    refine seqN (ρ' := [sd D, sd F]) (ifN_f ?_ rfl) ?_
    · simp only [Dl.LWt, i1, i2, lv, Bool.not_true]
    refine seqR (ifN_t ?_ ?_)
    · simp only [Dl.LWt, i0, e0]
    · simp only [Dl.LWt, i1, i2, i3, hin, hget, bg2, sh]
      try rfl
  | parted h1 h2 h3 h4 h5 h6 h7 =>
    rename_i a b w1 w2 r1 r2
    have lv := live_here T n a b t.nd t.rl (by omega) h2 (by have := t.ln; omega)
    rw [h3] at lv
    have hl : r1.length = n := t.rl _ h4
    have hl2 : r2.length = n := t.rl _ h6
    have sh := lshows r1 a b 0 1 (by omega) (by omega) h5
    have sh2 := lshows r2 a b 1 0 (by omega) (by omega) h7
    have i0 : gIx (factD (.parted a b w1 w2)) (.int 0) = .ok (.dat (.str "parted")) := gIx_t rfl
    have i1 : gIx (factD (.parted a b w1 w2)) (.int 1) = .ok (.dat (nD a)) := gIx_t rfl
    have i2 : gIx (factD (.parted a b w1 w2)) (.int 2) = .ok (.dat (nD b)) := gIx_t rfl
    have i3 : gIx (factD (.parted a b w1 w2)) (.int 3) = .ok (.dat (.str w1)) := gIx_t rfl
    have i4 : gIx (factD (.parted a b w1 w2)) (.int 4) = .ok (.dat (.str w2)) := gIx_t rfl
    have e0 : gEq (.str "parted") (.str "joined") = retB false := by rw [gEq_ss, decide_eq_false n_pj]
    have hin := t.notin h4
    have hin2 := t.notin h6
    have hget := t.get h4
    have hget2 := t.get h6
    generalize factD (.parted a b w1 w2) = F at *
    generalize tdD T = D at *
    unfold f_law_joined o_law_joined
    refine fnO_rt rfl ?_
    show oSeq _ _ [sd D, sd F] = _
    refine seqN (ρ' := [sd D, sd F]) (ifN_f ?_ rfl) ?_
    · simp only [Dl.LWt, i1, i2, lv, Bool.not_true]
    refine seqN (ρ' := [sd D, sd F]) (ifN_f ?_ rfl) ?_
    · simp only [Dl.LWt, i0, e0]
    refine seqN (ρ' := [sd D, sd F]) (ifN_f ?_ rfl) ?_
    · simp only [Dl.LWt, i3, i4, hin, hin2]
    refine seqN (ρ' := [sd D, sd F]) (ifN_f ?_ rfl) ?_
    · simp only [Dl.LWt, i1, i2, i3, hget, bg2, sh, Bool.not_true]
    · simp only [Dl.LWt, i1, i2, i4, hget2, bg2, sh2]
      try rfl
/-- what a fact tells, as the law says -/
abbrev tellD (f : Fact) : PyData := .tuple [.list ((sumPs f).map npD), .int (sumB f : Int)]
theorem fact_yes {T : Folk} {n : Nat} (t : Told T n) {f : Fact} {sdl : List Said} (h : FactIn T n sdl f) (hs : ∀ s ∈ sdl, gIn (saidD s) (.list (sdl.map saidD)) = retB true) : f_law_fact [tdD T, .list (sdl.map saidD), factD f, nD n] = .ok (.dat (tellD f)) := by
  have hjy := joined_yes t h
  cases h with
  | three h1 h2 h3 h4 h5 h6 h7 =>
    rename_i w r a b c
    have hl : r.length = n := t.rl _ h1
    have i0 : gIx (factD (.three w a b c)) (.int 0) = .ok (.dat (.str "three")) := gIx_t rfl
    have i1 : gIx (factD (.three w a b c)) (.int 1) = .ok (.dat (.str w)) := gIx_t rfl
    have i2 : gIx (factD (.three w a b c)) (.int 2) = .ok (.dat (nD a)) := gIx_t rfl
    have i3 : gIx (factD (.three w a b c)) (.int 3) = .ok (.dat (nD b)) := gIx_t rfl
    have i4 : gIx (factD (.three w a b c)) (.int 4) = .ok (.dat (nD c)) := gIx_t rfl
    have hm : f_law_marks_v3 [factD (.three w a b c), .int 2, .int 3, nD n] = .ok (.dat (.bool true)) := marks_up (factD (.three w a b c)) [a, b, c] 2 n (by simp) (by omega) (fun k hk => by
      match k, hk with
      | 0, _ => exact i2
      | 1, _ => exact i3
      | 2, _ => exact i4) (fun k hk => by
      match k, hk with
      | 0, _ => show a < n; omega
      | 1, _ => show b < n; omega
      | 2, _ => exact h4) (fun k hk => by
      match k, hk with
      | 0, _ => exact h2
      | 1, _ => exact h3)
    have hin := t.isin h1
    have hget := t.get h1
    have ra := ixR (r := r) (i := a) (by omega)
    have rb := ixR (r := r) (i := b) (by omega)
    have rc := ixR (r := r) (i := c) (by omega)
    rw [h5] at ra
    rw [h6] at rb
    rw [h7] at rc
    have e0 : gEq (.str "three") (.str "three") = retB true := by rw [gEq_ss, decide_eq_true rfl]
    have ht : gIsi "tuple" (factD (.three w a b c)) = retB true := rfl
    have hlen : gLen [factD (.three w a b c)] = retI 5 := rfl
    have lc := lcE (fi := iAr (aCons (eC (.int 2)) (aCons (eC (.int 5)) aNil)) rng2Of) (own := [4]) (bd := bN 4) (fe := eOp gNe (eOp gIx (eOp gGetK (eVar 0) (eOp gIx (eVar 2) (eC (.int 1)))) (eOp gIx (eVar 2) (eVar 4))) (eC (.int 2))) (ρ := [sd (tdD T), sd (.list (sdl.map saidD)), sd (factD (.three w a b c)), sd (nD n), none]) (fun k : Int => .int k) [2, 3, 4] (fun _ => .bool false) rfl (by simp) fun k hk => by
      refine ⟨_, rfl, .dat (.bool false), ?_, rfl⟩
      simp only [List.mem_cons, List.not_mem_nil, or_false] at hk
      rcases hk with rfl | rfl | rfl
      · simp only [Dl.LWt, wipeE, i1, i2, hget, ra, gNe_ii, decide_true, Bool.not_true]
      · simp only [Dl.LWt, wipeE, i1, i3, hget, rb, gNe_ii, decide_true, Bool.not_true]
      · simp only [Dl.LWt, wipeE, i1, i4, hget, rc, gNe_ii, decide_true, Bool.not_true]
    have ha := gAny_l [(2 : Int), 3, 4] fun _ => false
    have ha : _ = retB false := ha
    generalize factD (.three w a b c) = F at *
    generalize tdD T = D at *
    generalize hSD : PyData.list (sdl.map saidD) = SD at *
    unfold f_law_fact o_law_fact
    refine fnO_rt rfl ?_
    show oSeq _ _ [sd D, sd SD, sd F, sd (nD n), none] = _
    refine seqN (ρ' := [sd D, sd SD, sd F, sd (nD n), none]) (ifN_f ?_ rfl) ?_
    · simp only [Dl.LWt, eIsi, ht, hlen, Bool.not_true, gCmp_ii, cmpI]
      rfl
    refine seqR (ifN_t ?_ (seqN (ρ' := [sd D, sd SD, sd F, sd (nD n), none]) (ifN_f ?_ rfl) ?_))
    · simp only [Dl.LWt, i0, e0, hlen, gEq_ii, i1, hin, hm, decide_true]
    · simp only [Dl.LWt, lc, ha]
    · simp only [Dl.LWt, i2, i3, i4, bg2, bg3]
      try rfl
  | said hsm =>
    rename_i s
    have i0 : gIx (factD (saidF s)) (.int 0) = .ok (.dat (.str "said")) := gIx_t rfl
    have i2 : gIx (factD (saidF s)) (.int 2) = .ok (.dat (nD s.a)) := gIx_t rfl
    have i3 : gIx (factD (saidF s)) (.int 3) = .ok (.dat (nD s.b)) := gIx_t rfl
    have i4 : gIx (factD (saidF s)) (.int 4) = .ok (.dat (.str (wordS s.t))) := gIx_t rfl
    have e0 : gEq (.str "said") (.str "three") = retB false := by rw [gEq_ss, decide_eq_false n_st]
    have e1 : gEq (.str "said") (.str "said") = retB true := by rw [gEq_ss, decide_eq_true rfl]
    have e4 : gEq (.str (wordS s.t)) (.str "apart") = retB (!s.t) := by
      rw [gEq_ss]
      cases s.t with
      | true => exact congrArg retB (decide_eq_false (fun e => n_at e.symm))
      | false => exact congrArg retB (decide_eq_true rfl)
    have ht : gIsi "tuple" (factD (saidF s)) = retB true := rfl
    have hlen : gLen [factD (saidF s)] = retI 5 := rfl
    have hsl : gSl (factD (saidF s)) (some 1) none = .ok (.dat (saidD s)) := rfl
    have hin := hs s hsm
    have hg : sumPs (saidF s) = [(s.a, s.b)] := rfl
    have hb : sumB (saidF s) = if s.t = true then 0 else 1 := rfl
    unfold tellD
    rw [hg, hb]
    generalize factD (saidF s) = F at *
    generalize tdD T = D at *
    generalize hSD : PyData.list (sdl.map saidD) = SD at *
    generalize saidD s = SS at *
    unfold f_law_fact o_law_fact
    refine fnO_rt rfl ?_
    show oSeq _ _ [sd D, sd SD, sd F, sd (nD n), none] = _
    refine seqN (ρ' := [sd D, sd SD, sd F, sd (nD n), none]) (ifN_f ?_ rfl) ?_
    · simp only [Dl.LWt, eIsi, ht, hlen, Bool.not_true, gCmp_ii, cmpI]
      rfl
    refine seqN (ρ' := [sd D, sd SD, sd F, sd (nD n), none]) (ifN_f ?_ rfl) ?_
    · simp only [Dl.LWt, i0, e0]
    refine seqR (ifN_t ?_ ?_)
    · simp only [Dl.LWt, i0, e1, eSl, sSome, sNone, isI, hsl, hin]
    · generalize s.t = tb at i4 e4 ⊢
      cases tb <;> simp only [Dl.LWt, i2, i3, i4, e4, bg1, bg2, eIf, Bool.not_true, Bool.not_false] <;> try rfl
  | joined h1 h2 h3 h4 h5 =>
    rename_i a b w r
    have hj := hjy (.inl ⟨_, _, _, rfl⟩)
    have i0 : gIx (factD (.joined a b w)) (.int 0) = .ok (.dat (.str "joined")) := gIx_t rfl
    have i1 : gIx (factD (.joined a b w)) (.int 1) = .ok (.dat (nD a)) := gIx_t rfl
    have i2 : gIx (factD (.joined a b w)) (.int 2) = .ok (.dat (nD b)) := gIx_t rfl
    have e0 : gEq (.str "joined") (.str "three") = retB false := by rw [gEq_ss, decide_eq_false n_jt]
    have e1 : gEq (.str "joined") (.str "said") = retB false := by rw [gEq_ss, decide_eq_false (fun e => n_sj e.symm)]
    have e2 : gEq (.str "joined") (.str "joined") = retB true := by rw [gEq_ss, decide_eq_true rfl]
    have hm : f_law_marks_v3 [factD (.joined a b w), .int 1, .int 2, nD n] = .ok (.dat (.bool true)) := marks_up (factD (.joined a b w)) [a, b] 1 n (by simp) (by omega) (fun k hk => by
      match k, hk with
      | 0, _ => exact i1
      | 1, _ => exact i2) (fun k hk => by
      match k, hk with
      | 0, _ => show a < n; omega
      | 1, _ => exact h2) (fun k hk => by
      match k, hk with
      | 0, _ => exact h1)
    have ht : gIsi "tuple" (factD (.joined a b w)) = retB true := rfl
    have hlen : gLen [factD (.joined a b w)] = retI 4 := rfl
    generalize factD (.joined a b w) = F at *
    generalize tdD T = D at *
    generalize hSD : PyData.list (sdl.map saidD) = SD at *
    unfold f_law_fact o_law_fact
    refine fnO_rt rfl ?_
    show oSeq _ _ [sd D, sd SD, sd F, sd (nD n), none] = _
    refine seqN (ρ' := [sd D, sd SD, sd F, sd (nD n), none]) (ifN_f ?_ rfl) ?_
    · simp only [Dl.LWt, eIsi, ht, hlen, Bool.not_true, gCmp_ii, cmpI]
      rfl
    refine seqN (ρ' := [sd D, sd SD, sd F, sd (nD n), none]) (ifN_f ?_ rfl) ?_
    · simp only [Dl.LWt, i0, e0]
    refine seqN (ρ' := [sd D, sd SD, sd F, sd (nD n), none]) (ifN_f ?_ rfl) ?_
    · simp only [Dl.LWt, i0, e1]
    refine seqR (ifN_t ?_ ?_)
    · simp only [Dl.LWt, i0, e2, hlen, gEq_ii, hm, decide_true]
    · simp only [Dl.LWt, hj, i1, i2, bg1, bg2, eIf]
      try rfl
  | parted h1 h2 h3 h4 h5 h6 h7 =>
    rename_i a b w1 w2 r1 r2
    have hj := hjy (.inr ⟨_, _, _, _, rfl⟩)
    have i0 : gIx (factD (.parted a b w1 w2)) (.int 0) = .ok (.dat (.str "parted")) := gIx_t rfl
    have i1 : gIx (factD (.parted a b w1 w2)) (.int 1) = .ok (.dat (nD a)) := gIx_t rfl
    have i2 : gIx (factD (.parted a b w1 w2)) (.int 2) = .ok (.dat (nD b)) := gIx_t rfl
    have e0 : gEq (.str "parted") (.str "three") = retB false := by rw [gEq_ss, decide_eq_false n_pt]
    have e1 : gEq (.str "parted") (.str "said") = retB false := by rw [gEq_ss, decide_eq_false (fun e => n_sp e.symm)]
    have e2 : gEq (.str "parted") (.str "joined") = retB false := by rw [gEq_ss, decide_eq_false n_pj]
    have e3 : gEq (.str "parted") (.str "parted") = retB true := by rw [gEq_ss, decide_eq_true rfl]
    have hm : f_law_marks_v3 [factD (.parted a b w1 w2), .int 1, .int 2, nD n] = .ok (.dat (.bool true)) := marks_up (factD (.parted a b w1 w2)) [a, b] 1 n (by simp) (by omega) (fun k hk => by
      match k, hk with
      | 0, _ => exact i1
      | 1, _ => exact i2) (fun k hk => by
      match k, hk with
      | 0, _ => show a < n; omega
      | 1, _ => exact h2) (fun k hk => by
      match k, hk with
      | 0, _ => exact h1)
    have ht : gIsi "tuple" (factD (.parted a b w1 w2)) = retB true := rfl
    have hlen : gLen [factD (.parted a b w1 w2)] = retI 5 := rfl
    generalize factD (.parted a b w1 w2) = F at *
    generalize tdD T = D at *
    generalize hSD : PyData.list (sdl.map saidD) = SD at *
    unfold f_law_fact o_law_fact
    refine fnO_rt rfl ?_
    show oSeq _ _ [sd D, sd SD, sd F, sd (nD n), none] = _
    refine seqN (ρ' := [sd D, sd SD, sd F, sd (nD n), none]) (ifN_f ?_ rfl) ?_
    · simp only [Dl.LWt, eIsi, ht, hlen, Bool.not_true, gCmp_ii, cmpI]
      rfl
    refine seqN (ρ' := [sd D, sd SD, sd F, sd (nD n), none]) (ifN_f ?_ rfl) ?_
    · simp only [Dl.LWt, i0, e0]
    refine seqN (ρ' := [sd D, sd SD, sd F, sd (nD n), none]) (ifN_f ?_ rfl) ?_
    · simp only [Dl.LWt, i0, e1]
    refine seqN (ρ' := [sd D, sd SD, sd F, sd (nD n), none]) (ifN_f ?_ rfl) ?_
    · simp only [Dl.LWt, i0, e2]
    refine seqR (ifN_t ?_ ?_)
    · simp only [Dl.LWt, i0, e3, hlen, gEq_ii, hm, decide_true]
    · simp only [Dl.LWt, hj, i1, i2, bg1, bg2, eIf]
      try rfl
end Dl
/-! Bars walked: the two forms. -/
namespace Dl
open PySem PySem.Spec PyProof.Rows L2
theorem clash_in {T : Folk} {n : Nat} {p : Nat × Nat} (h : clashL T n = some p) : p.1 < p.2 ∧ p.2 < n ∧ ∃ w1 w2 w3 r1 r2 r3, clashAt T p = some (w1, w2, w3) ∧ (w1, r1) ∈ T ∧ ((0 : Int), (1 : Int)) ∈ showL r1 p.1 p.2 ∧ (w2, r2) ∈ T ∧ ((1 : Int), (0 : Int)) ∈ showL r2 p.1 p.2 ∧ (w3, r3) ∈ T ∧ ((1 : Int), (1 : Int)) ∈ showL r3 p.1 p.2 := by
  unfold clashL at h
  have h1 := mem_pairsL'.mp (List.mem_of_find?_eq_some h)
  have h2 := List.find?_some h
  refine ⟨h1.1, h1.2, ?_⟩
  unfold clashAt at h2 ⊢
  cases e1 : firstOf (sayL T p.1 p.2) (0, 1) with
  | none => rw [e1] at h2; simp at h2
  | some w1 =>
    cases e2 : firstOf (sayL T p.1 p.2) (1, 0) with
    | none => rw [e1, e2] at h2; simp at h2
    | some w2 =>
      cases e3 : firstOf (sayL T p.1 p.2) (1, 1) with
      | none => rw [e1, e2, e3] at h2; simp at h2
      | some w3 =>
        obtain ⟨r1, a1, b1⟩ := first_who e1
        obtain ⟨r2, a2, b2⟩ := first_who e2
        obtain ⟨r3, a3, b3⟩ := first_who e3
        exact ⟨w1, w2, w3, r1, r2, r3, rfl, a1, b1, a2, b2, a3, b3⟩
theorem law_clash_yes {T : Folk} {n : Nat} (t : Told T n) {p : Nat × Nat} (h : clashL T n = some p) : f_law_clash [tdD T, clashR T n, nD n] = .ok (.dat (.bool true)) ∧ ∃ l, clashR T n = .tuple (.str "clash" :: l) ∧ l.length = 5 := by
  obtain ⟨h1, h2, w1, w2, w3, r1, r2, r3, hc, a1, b1, a2, b2, a3, b3⟩ := clash_in h
  have hR : clashR T n = clashD p (w1, w2, w3) := by
    unfold clashR
    rw [h]
    simp only [hc, Option.getD_some]
  refine ⟨?_, _, by rw [hR]; rfl, rfl⟩
  rw [hR]
  obtain ⟨i, j⟩ := p
  have l1 : r1.length = n := t.rl _ a1
  have l2 : r2.length = n := t.rl _ a2
  have l3 : r3.length = n := t.rl _ a3
  have s1 := lshows r1 i j 0 1 (by omega) (by omega) b1
  have s2 := lshows r2 i j 1 0 (by omega) (by omega) b2
  have s3 := lshows r3 i j 1 1 (by omega) (by omega) b3
  have i1 : gIx (clashD (i, j) (w1, w2, w3)) (.int 1) = .ok (.dat (nD i)) := gIx_t rfl
  have i2 : gIx (clashD (i, j) (w1, w2, w3)) (.int 2) = .ok (.dat (nD j)) := gIx_t rfl
  have i3 : gIx (clashD (i, j) (w1, w2, w3)) (.int 3) = .ok (.dat (.str w1)) := gIx_t rfl
  have i4 : gIx (clashD (i, j) (w1, w2, w3)) (.int 4) = .ok (.dat (.str w2)) := gIx_t rfl
  have i5 : gIx (clashD (i, j) (w1, w2, w3)) (.int 5) = .ok (.dat (.str w3)) := gIx_t rfl
  have hlen : gLen [clashD (i, j) (w1, w2, w3)] = retI 6 := rfl
  have hm : f_law_marks_v3 [clashD (i, j) (w1, w2, w3), .int 1, .int 2, nD n] = .ok (.dat (.bool true)) := marks_up _ [i, j] 1 n (by simp) (by omega) (fun k hk => by
    match k, hk with
    | 0, _ => exact i1
    | 1, _ => exact i2) (fun k hk => by
    match k, hk with
    | 0, _ => show i < n; omega
    | 1, _ => exact h2) (fun k hk => by
    match k, hk with
    | 0, _ => exact h1)
  have g1 := t.get a1
  have g2 := t.get a2
  have g3 := t.get a3
  have n1 := t.notin a1
  have n2 := t.notin a2
  have n3 := t.notin a3
  generalize clashD (i, j) (w1, w2, w3) = F at *
  generalize tdD T = D at *
  have L0 : gIx (.list [.tuple [.int 0, .int 1], .tuple [.int 1, .int 0], .tuple [.int 1, .int 1]]) (.int 0) = .ok (.dat (.tuple [.int 0, .int 1])) := rfl
  have L1 : gIx (.list [.tuple [.int 0, .int 1], .tuple [.int 1, .int 0], .tuple [.int 1, .int 1]]) (.int 1) = .ok (.dat (.tuple [.int 1, .int 0])) := rfl
  have L2' : gIx (.list [.tuple [.int 0, .int 1], .tuple [.int 1, .int 0], .tuple [.int 1, .int 1]]) (.int 2) = .ok (.dat (.tuple [.int 1, .int 1])) := rfl
  unfold f_law_clash o_law_clash
  refine fnO_rt rfl ?_
  show oSeq _ _ [sd D, sd F, sd (nD n), none] = _
  refine seqN (ρ' := [sd D, sd F, sd (nD n), none]) (ifN_f ?_ rfl) ?_
  · simp only [Dl.LWt, hlen, gNe_ii, decide_true, Bool.not_true, hm]
  refine forS (fun k : Int => PyData.int k) [0, 1, 2] (fun pre ρ => ∃ x3, ρ = [sd D, sd F, sd (nD n), x3]) rfl ⟨none, rfl⟩ ?_ ?_
  · rintro pre k post ρ hk ⟨x3, rfl⟩
    have hk : k ∈ [(0 : Int), 1, 2] := by rw [hk]; simp
    simp only [List.mem_cons, List.not_mem_nil, or_false] at hk
    refine ⟨[sd D, sd F, sd (nD n), sd (.int k)], [sd D, sd F, sd (nD n), sd (.int k)], rfl, .inl (seqN (ρ' := [sd D, sd F, sd (nD n), sd (.int k)]) (ifN_f ?_ rfl) (ifN_f ?_ rfl)), _, rfl⟩
    · rcases hk with rfl | rfl | rfl <;> simp only [Dl.LWt, gAdd_ii, Int.reduceAdd, i3, i4, i5, n1, n2, n3]
    · rcases hk with rfl | rfl | rfl <;> simp only [Dl.LWt, gAdd_ii, Int.reduceAdd, i1, i2, i3, i4, i5, g1, g2, g3, bg2, bg3, L0, L1, L2', s1, s2, s3, Bool.not_true]
  · rintro ρ ⟨x3, rfl⟩
    simp only [Dl.LWt]
/-! ### odd -/
theorem fAt_mem {F : List Fact} {k : Nat} (h : k < F.length) : fAt F k ∈ F := by
  unfold fAt
  rw [List.getD_eq_getElem?_getD, List.getElem?_eq_getElem h]
  exact List.getElem_mem h
theorem oddD_eq {F : List Fact} {md : List Nat} (h : ∀ k ∈ md, k < F.length) : oddD F md = .tuple [.str "odd", .tuple (md.map fun k => factD (fAt F k))] := by
  unfold oddD
  have : (md.map fun k => (F.map factD).getD k .none) = md.map fun k => factD (fAt F k) := by
    refine List.map_congr_left fun k hk => ?_
    have := h k hk
    unfold fAt
    rw [List.getD_eq_getElem?_getD, List.getD_eq_getElem?_getD, List.getElem?_map, List.getElem?_eq_getElem this]
    rfl
  rw [this]
theorem erase_map {α β : Type} (f : α → β) : ∀ (l : List α) (j : Nat), (l.map f).eraseIdx j = (l.eraseIdx j).map f
  | [], _ => rfl
  | a :: l, 0 => rfl
  | a :: l, j + 1 => by
    show f a :: (l.map f).eraseIdx j = f a :: (l.eraseIdx j).map f
    rw [erase_map f l j]
theorem gRemove_np {L : List (Nat × Nat)} {p : Nat × Nat} (h : p ∈ L) : gRemove (L.map npD) [npD p] = some ((L.erase p).map npD, .none) := by
  have h1 : SeqAt.shaped (npD p) = true := dn_shaped (dn_npD p) (by omega)
  have h2 : SeqAt.shaped (.list (L.map npD)) = true := dn_shaped (dn_lst dn_npD L) (by omega)
  have h3 : ((L.map npD).findIdx? fun z => PyData.eqv z (npD p)) = L.idxOf? p := by
    rw [List.findIdx?_map]
    unfold List.idxOf?
    congr 1
    funext q
    show PyData.eqv (npD q) (npD p) = (q == p)
    rw [Bool.eq_iff_iff, dn_eqv 1 1 _ _ (dn_npD q) (dn_npD p), beq_iff_eq]
    exact ⟨fun e => npD_inj q p e, fun e => by rw [e]⟩
  unfold gRemove
  simp only [h1, h2, Bool.and_self, if_true, h3]
  rw [List.erase_eq_eraseIdx]
  cases e : L.idxOf? p with
  | none =>
    rw [List.idxOf?_eq_none_iff] at e
    exact absurd h e
  | some j =>
    simp only [Option.map_some]
    rw [erase_map]
theorem law_odd_yes {T : Folk} {n : Nat} (t : Told T n) {sdl : List Said} {F : List Fact} {md : List Nat} (hF : ∀ f ∈ F, FactIn T n sdl f) (hok : ∀ f ∈ F, FactOk n f) (o : OddL F md) (hml : md.length ≤ 200000) (hs : ∀ s ∈ sdl, gIn (saidD s) (.list (sdl.map saidD)) = retB true) :
    f_law_odd [tdD T, .list (sdl.map saidD), oddD F md, nD n] = .ok (.dat (.bool true)) := by
  rw [oddD_eq o.lt]
  have hfy := fun k (hk : k < F.length) => fact_yes t (hF _ (fAt_mem hk)) hs
  have hlen : gLen [.tuple [.str "odd", .tuple (md.map fun k => factD (fAt F k))]] = retI 2 := rfl
  have i1 : gIx (.tuple [.str "odd", .tuple (md.map fun k => factD (fAt F k))]) (.int 1) = .ok (.dat (.tuple (md.map fun k => factD (fAt F k)))) := gIx_t rfl
  have hty : gIsi "tuple" (.tuple (md.map fun k => factD (fAt F k))) = retB true := isi_tuple_tuple
  have hll := leftL_nil hok o
  have hb := o.b
  generalize tdD T = D at *
  generalize PyData.list (sdl.map saidD) = SD at *
  generalize hO : PyData.tuple [.str "odd", .tuple (md.map fun k => factD (fAt F k))] = O at *
  unfold f_law_odd o_law_odd
  refine fnO_rt rfl ?_
  show oSeq _ _ [sd D, sd SD, sd O, sd (nD n), none, none, none, none, none] = _
  refine seqN (ρ' := [sd D, sd SD, sd O, sd (nD n), none, none, none, none, none]) (ifN_f ?_ rfl) ?_
  · simp only [Dl.LWt, hlen, gNe_ii, decide_true, i1, eIsi, hty, Bool.not_true]
  refine seqN (ρ' := [sd D, sd SD, sd O, sd (nD n), so (.list []), none, none, none, none]) rfl ?_
  refine seqN (ρ' := [sd D, sd SD, sd O, sd (nD n), so (.list []), sd (nD 0), none, none, none]) rfl ?_
  refine forS (fun k : Nat => factD (fAt F k)) md (fun pre ρ => ∃ x6 x7 x8, ρ = [sd D, sd SD, sd O, sd (nD n), so (.list ((leftL F pre).map npD)), sd (nD ((pre.map fun k => sumB (fAt F k)).sum)), x6, x7, x8]) ?_ ⟨none, none, none, rfl⟩ ?_ ?_
  · simp only [Dl.LWt, iOf, i1, itemsD]
  · rintro pre k post ρ hk ⟨x6, x7, x8, rfl⟩
    have hkm : k < F.length := o.lt k (by rw [hk]; simp)
    have hy := hfy k hkm
    have hL := leftL_len hok pre
    have hpl : pre.length ≤ md.length := by rw [hk]; simp
    have nt : gIsN (tellD (fAt F k)) .none = retB false := rfl
    have j1 : gIx (tellD (fAt F k)) (.int 1) = .ok (.dat (nD (sumB (fAt F k)))) := gIx_t rfl
    have j0 : gIx (tellD (fAt F k)) (.int 0) = .ok (.dat (.list ((sumPs (fAt F k)).map npD))) := gIx_t rfl
    have hps : (sumPs (fAt F k)).length ≤ 3 := by cases fAt F k <;> simp [sumPs]
    rw [leftL_app, List.map_append, List.sum_append]
    generalize leftL F pre = L at *
    generalize (pre.map fun k => sumB (fAt F k)).sum = S at *
    generalize hTD : tellD (fAt F k) = TD at *
    obtain ⟨ρ', f1, x8', rfl⟩ := forP (fi := iOf (eOp gIx (eVar 7) (eC (.int 0)))) (bd := bN 8) (body := oIf (tPub (tOf (eOp gIn (eVar 8) (eVar 4)))) (oMutS (mMut 4 gRemove (aCons (eVar 8) aNil))) (oMutS (mMut 4 gAppend (aCons (eVar 8) aNil)))) (ρ := [sd D, sd SD, sd O, sd (nD n), so (.list (L.map npD)), sd (.int ((S : Int) + (sumB (fAt F k) : Int))), sd (factD (fAt F k)), sd TD, x8]) npD (sumPs (fAt F k))
      (fun pre' ρ => ∃ x8', ρ = [sd D, sd SD, sd O, sd (nD n), so (.list ((togs L pre').map npD)), sd (.int ((S : Int) + (sumB (fAt F k) : Int))), sd (factD (fAt F k)), sd TD, x8']) (by simp only [Dl.LWt, iOf, j0, itemsD]) ⟨x8, rfl⟩ (by
        rintro pre' p post' ρ hp ⟨x8', rfl⟩
        have hin := gIn_dn npD 1 dn_npD (by decide) npD_inj p (togs L pre')
        have hpl' : pre'.length ≤ 3 := by
          have := congrArg List.length hp
          rw [List.length_append, List.length_cons] at this
          omega
        have htl := togs_len pre' L
        have e : togs L (pre' ++ [p]) = tog (togs L pre') p := by unfold togs; rw [List.foldl_append]; rfl
        rw [e]
        generalize togs L pre' = M at *
        unfold tog
        refine ⟨_, [sd D, sd SD, sd O, sd (nD n), so (.list ((if p ∈ M then M.erase p else M ++ [p]).map npD)), sd (.int ((S : Int) + (sumB (fAt F k) : Int))), sd (factD (fAt F k)), sd TD, sd (npD p)], rfl, .inl ?_, _, rfl⟩
        by_cases hm : p ∈ M
        · have hin := hin.trans (congrArg retB (show _ = true by simp [hm]))
          have hr := gRemove_np hm
          rw [if_pos hm]
          refine ifN_t ?_ ?_
          · simp only [Dl.LWt, tPub, fixAll_map, List.map_cons, List.map_nil, fixS_own, fixS_dat, hin]
          · simp only [Dl.LWt, oMutS, mMut, hr]
        · have hin := hin.trans (congrArg retB (show _ = false by simp [hm]))
          have hb2 : big ((M.map npD).length + 1) = true := big_lt (by rw [List.length_map]; omega)
          have ha : gAppend (M.map npD) [npD p] = some (M.map npD ++ [npD p], .none) := if_pos hb2
          rw [if_neg hm]
          refine ifN_f ?_ ?_
          · simp only [Dl.LWt, tPub, fixAll_map, List.map_cons, List.map_nil, fixS_own, fixS_dat, hin]
          · simp only [Dl.LWt, oMutS, mMut, ha, List.map_append, List.map_cons, List.map_nil])
    refine ⟨[sd D, sd SD, sd O, sd (nD n), so (.list (L.map npD)), sd (nD S), sd (factD (fAt F k)), x7, x8], _, rfl, .inl (seqN (ρ' := [sd D, sd SD, sd O, sd (nD n), so (.list (L.map npD)), sd (nD S), sd (factD (fAt F k)), sd TD, x8]) ?_ (seqN (ρ' := [sd D, sd SD, sd O, sd (nD n), so (.list (L.map npD)), sd (nD S), sd (factD (fAt F k)), sd TD, x8]) (ifN_f ?_ rfl) (seqN (ρ' := [sd D, sd SD, sd O, sd (nD n), so (.list (L.map npD)), sd (.int ((S : Int) + (sumB (fAt F k) : Int))), sd (factD (fAt F k)), sd TD, x8]) ?_ f1))), sd (factD (fAt F k)), sd TD, x8', ?_⟩
    · simp only [Dl.LWt, hy]
    · simp only [Dl.LWt, nt]
    · unfold oAug
      simp only [List.getElem?_cons_succ, List.getElem?_cons_zero]
      simp only [Dl.LWt, j1]
    · simp only [List.map_cons, List.map_nil, List.sum_cons, List.sum_nil, Nat.add_zero]
      rw [show nD (S + sumB (fAt F k)) = PyData.int ((S : Int) + (sumB (fAt F k) : Int)) from by show PyData.int ((S + sumB (fAt F k) : Nat) : Int) = _; rw [Int.natCast_add]]
  · rintro ρ ⟨x6, x7, x8, rfl⟩
    rw [hll]
    unfold par at hb
    have h0 : gEq (.list []) (.list []) = retB true := rfl
    generalize (md.map fun k => sumB (fAt F k)).sum = S at *
    have hS : decide ((S : Int) % 2 = 1) = true := decide_eq_true (by omega)
    refine fixN ?_
    simp only [Dl.LWt, fixs, Env.fix, h0, gMod_ii (show (0 : Int) < 2 by decide), gEq_ii, hS]
    rfl
end Dl
/-! Bars walked: the bar of a company. -/
namespace Dl
open PySem PySem.Spec PyProof.Rows L2
theorem dm_saidZ (s : Said) (h : SOk s.w) : dm 1 (saidD s) = true := by
  have hw : SOk (wordS s.t) := by
    unfold wordS
    split <;> (intro c hc; revert c; decide +kernel)
  show ([PyData.str s.w, nD s.a, nD s.b, PyData.str (wordS s.t)].all (dm 0)) = true
  simp only [List.all_cons, List.all_nil, dm_str 0 _ h, dm_str 0 _ hw, Bool.and_true, Bool.true_and]
  rfl
theorem gIn_said {sdl : List Said} (h : ∀ s ∈ sdl, SOk s.w) : ∀ s ∈ sdl, gIn (saidD s) (.list (sdl.map saidD)) = retB true := by
  intro s hs
  have h1 : SeqAt.shaped (saidD s) = true := dm_shaped (dm_saidZ s (h s hs)) (by omega)
  have hl : dm 2 (.list (sdl.map saidD)) = true := by
    show ((sdl.map saidD).all (dm 1)) = true
    rw [List.all_eq_true]
    intro d hd
    obtain ⟨t, ht, rfl⟩ := List.mem_map.mp hd
    exact dm_saidZ t (h t ht)
  have h2 : SeqAt.shaped (.list (sdl.map saidD)) = true := dm_shaped hl (by omega)
  have h3 : ((sdl.map saidD).any fun z => PyData.eqv z (saidD s)) = true := by
    rw [List.any_eq_true]
    exact ⟨saidD s, List.mem_map_of_mem hs, (dm_eqv 1 1 _ _ (dm_saidZ s (h s hs)) (dm_saidZ s (h s hs))).mpr rfl⟩
  unfold gIn gInB
  simp only [h1, h2, h3, and_self, if_true]
  split <;> exact bindN_ok
theorem told_of {g : List Int} {fk : Folk} {sdl : List Said} (c : Comp g fk sdl) (nd : (fk.map (·.1)).Nodup) (hl : fk.length ≤ 100) : Told (toldOf g fk) g.length := by
  refine ⟨?_, fun f hf => (told_ok c.pg c.fr f hf).1, by unfold toldOf; rw [List.length_map]; omega⟩
  unfold toldOf
  rw [List.map_map]
  exact nd
/-- a bar is of one of two forms, and the law walks it -/
theorem bar_walk {g : List Int} {fk : Folk} {sdl : List Said} (c : Comp g fk sdl) (nd : (fk.map (·.1)).Nodup) (ok : ∀ f ∈ fk, SOk f.1) (hn : g.length ≤ 40) (hl : fk.length ≤ 100) (hs : sdl.length ≤ 1000) (ho : opn g fk sdl = false) :
    ∃ (a : Str) (x : PyData) (l : List PyData), Pof g fk sdl = .tuple (.str a :: x :: l) ∧ ((a = "clash" ∧ f_law_clash [tdD (toldOf g fk), Pof g fk sdl, nD g.length] = .ok (.dat (.bool true))) ∨ (a = "odd" ∧ f_law_odd [tdD (toldOf g fk), .list (sdl.map saidD), Pof g fk sdl, nD g.length] = .ok (.dat (.bool true)))) := by
  have t := told_of c nd hl
  have hr : ∀ f ∈ toldOf g fk, f.2.length = g.length := t.rl
  unfold opn at ho
  unfold Pof lookP at *
  cases hc : clashL (toldOf g fk) g.length with
  | some p =>
    obtain ⟨h1, l, h2, h3⟩ := law_clash_yes t hc
    cases l with
    | nil => cases h3
    | cons x l =>
      simp only
      exact ⟨"clash", x, l, h2, .inl ⟨rfl, h1⟩⟩
  | none =>
    simp only [hc] at ho ⊢
    cases hm : (runF [] 0 (factsL (toldOf g fk) g.length sdl)).2 with
    | none =>
      simp only [hm] at ho
      cases ho
    | some md =>
      have hok := facts_ok (toldOf g fk) g.length sdl hr c.saidOk
      have o := odd_of hok hm
      have hw : ∀ s ∈ sdl, SOk s.w := fun s h => by
        obtain ⟨f, hf, e⟩ := (c.say s h).ex
        rw [← e]
        exact ok f hf
      have hfl := facts_len (toldOf g fk) g.length sdl hn hr (by unfold toldOf; rw [List.length_map]; exact hl) hs
      have hml : md.length ≤ 200000 := by
        have : md.length ≤ (List.range (factsL (toldOf g fk) g.length sdl).length).length := List.Nodup.length_le_of_subset o.nd fun k hk => List.mem_range.mpr (o.lt k hk)
        rw [List.length_range] at this
        omega
      have hy := law_odd_yes t (facts_in (toldOf g fk) g.length sdl hr) hok o hml (gIn_said hw)
      simp only
      exact ⟨"odd", _, _, rfl, .inr ⟨rfl, hy⟩⟩
end Dl
/-! k15 -/
namespace Dl
open PySem PySem.Spec PyProof.Rows L2
theorem said_free {n : Nat} {fk : Folk} {s : Said} (h : SayOk n fk s) (t : Bool) : SayOk n fk ⟨s.w, s.a, s.b, t⟩ := ⟨h.lt, h.n, h.ex, h.mx⟩
theorem told_loop15 {g : List Int} {fk : Folk} (hg : plainR g) (hr : ∀ f ∈ fk, f.2.length = g.length ∧ mixR f.2) (nd : (fk.map (·.1)).Nodup) (hl : fk.length ≤ 100) (hn : g.length ≤ 40) (S : PyData) (c : Int) (SD J P : PyData) (y8 y9 x10 x11 x12 : Option Sl) :
    ∃ x8 x9, oForE (iOf (eVar 7)) (bTup 2 (bCons (bN 8) (bCons (bN 9) bNil))) (oPutK 5 (eCall f_law_against (aCons (eVar 9) (aCons (eVar 6) aNil))) (eVar 8)) [sd S, sd SD, sd (.int c), sd J, sd P, so (.dict []), sd (rowD g), sd (.list (fk.map fkD)), y8, y9, x10, x11, x12] =
      .nx [sd S, sd SD, sd (.int c), sd J, sd P, so (tdD (toldOf g fk)), sd (rowD g), sd (.list (fk.map fkD)), x8, x9, x10, x11, x12] := by
  obtain ⟨ρ', h1, x8, x9, rfl⟩ := forP (fi := iOf (eVar 7)) (bd := bTup 2 (bCons (bN 8) (bCons (bN 9) bNil))) (body := oPutK 5 (eCall f_law_against (aCons (eVar 9) (aCons (eVar 6) aNil))) (eVar 8)) (ρ := [sd S, sd SD, sd (.int c), sd J, sd P, so (.dict []), sd (rowD g), sd (.list (fk.map fkD)), y8, y9, x10, x11, x12]) fkD fk
    (fun pre ρ => ∃ x8 x9, ρ = [sd S, sd SD, sd (.int c), sd J, sd P, so (tdD (toldOf g pre)), sd (rowD g), sd (.list (fk.map fkD)), x8, x9, x10, x11, x12]) (by simp only [Dl.LWt, iOf, itemsD]) ⟨y8, y9, rfl⟩ (by
    rintro pre f post ρ hk ⟨x8, x9, rfl⟩
    have hf : f ∈ fk := by rw [hk]; simp
    have ha := law_against_spec f.2 g (by have := (hr f hf).1; omega) (hr f hf).1.symm (hr f hf).2 hg
    have hnew : f.1 ∉ (toldOf g pre).map (·.1) := by
      unfold toldOf
      rw [List.map_map]
      intro hm
      rw [hk, List.map_append, List.map_cons, List.nodup_append] at nd
      exact nd.2.2 _ hm _ (List.mem_cons_self ..) rfl
    have hput := putD_dS (toldOf g pre) f.1 (ag f.2 g) hnew
    have e : toldOf g (pre ++ [f]) = toldOf g pre ++ [(f.1, ag f.2 g)] := by unfold toldOf; rw [List.map_append]; rfl
    have hbg : big ((dS (toldOf g pre)).length + 1) = true := by
      refine big_lt ?_
      unfold dS toldOf
      rw [List.length_map, List.length_map]
      have := congrArg List.length hk
      rw [List.length_append, List.length_cons] at this
      omega
    rw [e]
    have hdk := isDK_dS (toldOf g pre)
    generalize hE : dS (toldOf g pre) = es at *
    refine ⟨[sd S, sd SD, sd (.int c), sd J, sd P, so (.dict es), sd (rowD g), sd (.list (fk.map fkD)), sd (.str f.1), sd (rowD f.2), x10, x11, x12], [sd S, sd SD, sd (.int c), sd J, sd P, so (tdD (toldOf g pre ++ [(f.1, ag f.2 g)])), sd (rowD g), sd (.list (fk.map fkD)), sd (.str f.1), sd (rowD f.2), x10, x11, x12], ?_, .inl ?_, _, _, rfl⟩
    · rw [show tdD (toldOf g pre) = .dict es from congrArg PyData.dict hE]
      rfl
    · unfold oPutK
      simp only [Dl.LWt, ha, hdk, hbg, keyV, hput])
  exact ⟨x8, x9, h1⟩
theorem good (ns : List Int) : f_law_k15 [scr ns] = .ok (.dat (.bool true)) := by
  obtain ⟨g, L0, prs, fk, T, t1, t2, t3, t4, t5, t6, t7, _, tt, t8⟩ := company_spec2 ns 0 6 6 (by omega) (by omega) (by omega)
  have nd := names_nodup (by omega) t7
  have q5 := cell_spec ns 5 (by omega)
  generalize cellAt ns (Int.toNat 5) = pick at q5
  -- sayings
  have sx : ∃ (sdl : List Said), sdl.length ≤ fk.length ∧ (∀ s ∈ sdl, SayOk g.length fk s) ∧ (oIf (tOf (eOp gEq (eOp gMod (eVar 2) (eC (.int 2))) (eC (.int 1)))) (oSet 1 (eCall f_law_sayings (aCons (eVar 7) (aCons (eOp gDiv (eVar 2) (eC (.int 4))) aNil)))) oNx) [sd (scr ns), so (.list []), sd (.int pick), none, none, none, sd (rowD g), sd (.list (fk.map fkD)), none, none, none, none, none] = .nx [sd (scr ns), so (.list (sdl.map saidD)), sd (.int pick), none, none, none, sd (rowD g), sd (.list (fk.map fkD)), none, none, none, none, none] := by
    by_cases h : pick % 2 = 1
    · obtain ⟨sdl, s1, s2, s3⟩ := sayings_spec g fk (pick / 4) t5 nd (by omega) (by omega)
      refine ⟨sdl, s1, s2, ifN_t ?_ ?_⟩
      · simp only [Dl.LWt, gMod_ii (show (0 : Int) < 2 by decide), gEq_ii, h, decide_true]
      · simp only [Dl.LWt, gDiv_ii (show (0 : Int) < 4 by decide) (show (4 : Int) < 18446744073709551616 by decide), s3]
    · refine ⟨[], Nat.zero_le _, (fun s hs => by cases hs), ifN_f ?_ rfl⟩
      simp only [Dl.LWt, gMod_ii (show (0 : Int) < 2 by decide), gEq_ii, h, decide_false]
  obtain ⟨sdl0, s1, s2, s3⟩ := sx
  have sy : ∃ (sdl : List Said) (x1 x8 x10 x11 x12 : Option Sl), sdl.length ≤ 100 ∧ (∀ s ∈ sdl, SayOk g.length fk s) ∧ (x1 = so (.list (sdl.map saidD)) ∨ x1 = sd (.list (sdl.map saidD))) ∧
      (oFix [1] (oIf (tAndF (tOf (eOp gEq (eOp gMod (eVar 2) (eC (.int 4))) (eC (.int 3)))) (tOf (eOp (gCmp .Gt) (eCall gLen (aCons (eVar 1) aNil)) (eC (.int 0))))) (oSeq (oFix [1] (oAsg (eOp gIx (eVar 1) (eC (.int 0))) (bTup 4 (bCons (bN 8) (bCons (bN 10) (bCons (bN 11) (bCons (bN 12) bNil)))))))
    (oFix [1] (oSet 1 (eOp gAdd (eLst (aCons (eTup (aCons (eVar 8) (aCons (eVar 10) (aCons (eVar 11) (aCons (eIf (tOf (eOp gEq (eVar 12) (eC (.str "together")))) (eC (.str "apart")) (eC (.str "together"))) aNil))))) aNil)) (eSl (eVar 1) (sSome (eC (.int 1))) sNone))))) oNx)) [sd (scr ns), so (.list (sdl0.map saidD)), sd (.int pick), none, none, none, sd (rowD g), sd (.list (fk.map fkD)), none, none, none, none, none] = .nx [sd (scr ns), x1, sd (.int pick), none, none, none, sd (rowD g), sd (.list (fk.map fkD)), x8, none, x10, x11, x12] := by
    have hlen : gLen [.list (sdl0.map saidD)] = retI (sdl0.length : Int) := by rw [gLen_l, List.length_map]
    by_cases h : pick % 4 = 3 ∧ 0 < sdl0.length
    · obtain ⟨h, h0⟩ := h
      cases sdl0 with
      | nil => cases h0
      | cons s sdl0 =>
        have d1 : decide (((s :: sdl0).length : Int) > 0) = true := decide_eq_true (by omega)
        have i0 : gIx (.list ((s :: sdl0).map saidD)) (.int 0) = .ok (.dat (saidD s)) := ixL (i := 0) (l := s :: sdl0) (e := saidD) rfl
        have c1 : cutD ((s :: sdl0).map saidD) (some 1) none = sdl0.map saidD := (cut_from (by omega) (by simp; omega)).trans rfl
        have e4 : gEq (.str (wordS s.t)) (.str "together") = retB s.t := word_is s.t
        have c1 : gSl (.list ((s :: sdl0).map saidD)) (some 1) none = .ok (.own (.list (sdl0.map saidD))) := by
          show Dl.M.ok (Sl.own (.list (cutD _ _ _))) = _
          rw [c1]
        have b4 : ∀ a b c d : PyData, big [a, b, c, d].length = true := fun _ _ _ _ => rfl
        have bg : ([PyData.tuple [.str s.w, nD s.a, nD s.b, .str (wordS (!s.t))]] : List PyData).length + (sdl0.map saidD).length ≤ 16777216 := (by
          have : (s :: sdl0).length = sdl0.length + 1 := rfl
          rw [List.length_map]
          simp
          omega)
        refine ⟨⟨s.w, s.a, s.b, !s.t⟩ :: sdl0, so (.list ((⟨s.w, s.a, s.b, !s.t⟩ :: sdl0 : List Said).map saidD)), sd (.str s.w), sd (nD s.a), sd (nD s.b), sd (.str (wordS s.t)), by have := s1; simp only [List.length_cons] at *; omega, ?_, .inl rfl, fixN (ifN_t ?_ (seqN (ρ' := [sd (scr ns), sd (.list ((s :: sdl0).map saidD)), sd (.int pick), none, none, none, sd (rowD g), sd (.list (fk.map fkD)), sd (.str s.w), none, sd (nD s.a), sd (nD s.b), sd (.str (wordS s.t))]) (fixN ?_) (fixN ?_)))⟩
        · intro u hu
          rcases List.mem_cons.mp hu with rfl | hu
          · exact said_free (s2 s (List.mem_cons_self ..)) _
          · exact s2 u (List.mem_cons_of_mem _ hu)
        · generalize (s :: sdl0).map saidD = LL at *
          simp only [Dl.LWt, fixs, Env.fix, gMod_ii (show (0 : Int) < 4 by decide), gEq_ii, h, decide_true, hlen, gCmp_ii, cmpI, d1]
        · generalize (s :: sdl0).map saidD = LL at *
          simp only [Dl.LWt, fixs, Env.fix, oAsg, i0]
          rfl
        · have hadd : gAdd (.list [.tuple [.str s.w, nD s.a, nD s.b, .str (wordS (!s.t))]]) (.list (sdl0.map saidD)) = .ok (.own (.list (.tuple [.str s.w, nD s.a, nD s.b, .str (wordS (!s.t))] :: sdl0.map saidD))) := by
            rw [gAdd_ll bg]
            rfl
          generalize (s :: sdl0).map saidD = LL at *
          cases hst : s.t with
          | true =>
            rw [hst] at e4 hadd
            simp only [Dl.LWt, fixs, Env.fix, eIf, e4, b4, bg1, eSl, sSome, sNone, isI, c1]
            have hadd : gAdd (.list [.tuple [.str s.w, nD s.a, nD s.b, .str "apart"]]) (.list (sdl0.map saidD)) = _ := hadd
            simp only [Dl.LWt, hadd]
            rfl
          | false =>
            rw [hst] at e4 hadd
            simp only [Dl.LWt, fixs, Env.fix, eIf, e4, b4, bg1, eSl, sSome, sNone, isI, c1]
            have hadd : gAdd (.list [.tuple [.str s.w, nD s.a, nD s.b, .str "together"]]) (.list (sdl0.map saidD)) = _ := hadd
            simp only [Dl.LWt, hadd]
            rfl
    · refine ⟨sdl0, sd (.list (sdl0.map saidD)), none, none, none, none, by omega, s2, .inr rfl, fixN (ifN_f ?_ rfl)⟩
      by_cases h2 : pick % 4 = 3
      · have d1 : decide ((sdl0.length : Int) > 0) = false := decide_eq_false (fun z => h ⟨h2, by omega⟩)
        simp only [Dl.LWt, fixs, Env.fix, gMod_ii (show (0 : Int) < 4 by decide), gEq_ii, h2, decide_true, hlen, gCmp_ii, cmpI, d1]
      · simp only [Dl.LWt, fixs, Env.fix, gMod_ii (show (0 : Int) < 4 by decide), gEq_ii, h2, decide_false]
  obtain ⟨sdl, x1, x8, x10, x11, x12, y1, y2, y4, y5⟩ := sy
  have c := comp_of T t5 y2
  have hj := new_spec c (by omega) (by omega) (by omega)
  have hm := prog_many c (by omega)
  have hbar := prog_bar c
  have hin1 := jo_ins (g := g) (fk := fk) (sdl := sdl) np_many
  have hin2 := jo_ins (g := g) (fk := fk) (sdl := sdl) (m := "bar_of") np_barof
  have hcp := cnt_pos (g := g) (fk := fk) (sdl := sdl)
  have hop : opn g fk sdl = isNoneD (Pof g fk sdl) := rfl
  have hisn : gIsN (Pof g fk sdl) .none = retB (isNoneD (Pof g fk sdl)) := by rw [gIsN_n]
  have hwalk := bar_walk c nd t6 (by omega) (by omega) (by omega)
  generalize joD g fk sdl = J at *
  generalize hP : Pof g fk sdl = P at *
  unfold f_law_k15 o_law_k15
  refine fnO_rt rfl ?_
  refine seqN (ρ' := [sd (scr ns), none, none, none, none, none, sd (rowD g), sd (.list (fk.map fkD)), none, none, none, none, none]) ?_ ?_
  · simp only [oAsg, eCall, aCons, aNil, eC, eVar, List.map_cons, List.map_nil, List.cons_append, List.getElem?_cons_zero, bindN_ok, Sl.d_dat, t8, oOfN_ok]
    rfl
  refine seqN (ρ' := [sd (scr ns), so (.list []), none, none, none, none, sd (rowD g), sd (.list (fk.map fkD)), none, none, none, none, none]) rfl ?_
  refine seqN (ρ' := [sd (scr ns), so (.list []), sd (.int pick), none, none, none, sd (rowD g), sd (.list (fk.map fkD)), none, none, none, none, none]) ?_ ?_
  · simp only [Dl.LWt, q5]
  refine seqN s3 (seqN y5 ?_)
  refine seqN (ρ' := [sd (scr ns), sd (.list (sdl.map saidD)), sd (.int pick), sd J, none, none, sd (rowD g), sd (.list (fk.map fkD)), x8, none, x10, x11, x12]) (fixN ?_) ?_
  · rcases y4 with rfl | rfl <;> simp only [Dl.LWt, fixs, Env.fix, gList_l, hj]
  refine seqN (ρ' := [sd (scr ns), sd (.list (sdl.map saidD)), sd (.int pick), sd J, sd P, none, sd (rowD g), sd (.list (fk.map fkD)), x8, none, x10, x11, x12]) ?_ ?_
  · simp only [Dl.LWt, hin2, hbar]
  cases ho : isNoneD P with
  | true =>
    refine seqR (ifN_t ?_ ?_)
    · simp only [Dl.LWt, hisn, ho]
    · have hcp2 : decide ((cntW g fk sdl : Int) > 0) = true := by rw [hcp, hop, ho]
      simp only [Dl.LWt, hin1, hm, gCmp_ii, cmpI, hcp2]
      try rfl
  | false =>
    rw [hop, ho] at hcp hwalk
    obtain ⟨a, x, l, hPe, hw⟩ := hwalk rfl
    have hc0 : cntW g fk sdl = 0 := by have := of_decide_eq_false hcp; omega
    refine seqN (ρ' := [sd (scr ns), sd (.list (sdl.map saidD)), sd (.int pick), sd J, sd P, none, sd (rowD g), sd (.list (fk.map fkD)), x8, none, x10, x11, x12]) (ifN_f ?_ rfl) ?_
    · simp only [Dl.LWt, hisn, ho]
    refine seqN (ρ' := [sd (scr ns), sd (.list (sdl.map saidD)), sd (.int pick), sd J, sd P, so (.dict []), sd (rowD g), sd (.list (fk.map fkD)), x8, none, x10, x11, x12]) rfl ?_
    obtain ⟨y8, y9, hT⟩ := told_loop15 c.pg t5 nd (by omega) (by omega) (scr ns) pick (.list (sdl.map saidD)) J P x8 none x10 x11 x12
    refine seqN hT ?_
    have hty : gIsi "tuple" P = retB true := by rw [hPe]; exact isi_tuple_tuple
    have hlen : gLen [P] = retI ((l.length + 2 : Nat) : Int) := by rw [hPe]; rfl
    have i0 : gIx P (.int 0) = .ok (.dat (.str a)) := by rw [hPe]; exact gIx_t (by rw [atI_pos (by omega)]; rfl)
    have hd : decide (((l.length + 2 : Nat) : Int) < 2) = false := decide_eq_false (by omega)
    have hgl : gLen [rowD g] = retI (g.length : Int) := by rw [gLen_t, List.length_map]
    refine seqN (ρ' := [sd (scr ns), sd (.list (sdl.map saidD)), sd (.int pick), sd J, sd P, so (tdD (toldOf g fk)), sd (rowD g), sd (.list (fk.map fkD)), y8, y9, x10, x11, x12]) (ifN_f ?_ rfl) ?_
    · simp only [Dl.LWt, hin1, hm, hc0, ncast0, gNe_ii, decide_true, Bool.not_true, eIsi, hty, hlen, gCmp_ii, cmpI, hd]
    rcases hw with ⟨rfl, hw⟩ | ⟨rfl, hw⟩
    · have e0 : gEq (.str "clash") (.str "clash") = retB true := by rw [gEq_ss, decide_eq_true rfl]
      refine seqR (ifN_t ?_ (fixN ?_))
      · simp only [Dl.LWt, i0, e0]
      · simp only [Dl.LWt, fixs, Env.fix, hgl, hw]
        try rfl
    · have e0 : gEq (.str "odd") (.str "clash") = retB false := by rw [gEq_ss, decide_eq_false (by decide +kernel)]
      have e1 : gEq (.str "odd") (.str "odd") = retB true := by rw [gEq_ss, decide_eq_true rfl]
      refine seqN (ρ' := [sd (scr ns), sd (.list (sdl.map saidD)), sd (.int pick), sd J, sd P, so (tdD (toldOf g fk)), sd (rowD g), sd (.list (fk.map fkD)), y8, y9, x10, x11, x12]) (ifN_f ?_ rfl) (fixN ?_)
      · simp only [Dl.LWt, i0, e0]
      · simp only [Dl.LWt, fixs, Env.fix, i0, e1, hgl, hw]
        try rfl
end Dl
namespace Dl
open PySem PySem.Spec PyProof.Rows L2
def top (i : Nat) : Stmt := PySem.Challenge.pw_unmix_k15_bars_walked.main.body.getD i (.Pass ⟨0, 0, 0, 0⟩)
abbrev dd (p : Str × Option Str) (x q : Str) (s : Stmt) : He.DefD := ⟨p, x, q, defArgs s, defBody s, defScope s, [], []⟩
abbrev s_law_whole : Stmt := (top 32)
abbrev N_law_whole : List Str := ["_law_found"]
theorem sc_law_whole : FnScope N_law_whole ["_law_found"] (defScope s_law_whole) := ⟨rfl, rfl, rfl, by decide +kernel, rfl, by decide +kernel, by decide +kernel⟩
abbrev s_law_marks_v3 : Stmt := (top 45)
abbrev N_law_marks_v3 : List Str := ["_law_fact_here", "_law_first", "_law_many", "_law_most", "_law_k"]
theorem sc_law_marks_v3 : FnScope N_law_marks_v3 ["_law_fact_here", "_law_first", "_law_many", "_law_most"] (defScope s_law_marks_v3) := ⟨rfl, rfl, rfl, by decide +kernel, rfl, by decide +kernel, by decide +kernel⟩
abbrev s_law_shows : Stmt := (top 44)
abbrev N_law_shows : List Str := ["_law_sight", "_law_i", "_law_j", "_law_pair"]
theorem sc_law_shows : FnScope N_law_shows ["_law_sight", "_law_i", "_law_j", "_law_pair"] (defScope s_law_shows) := ⟨rfl, rfl, rfl, by decide +kernel, rfl, by decide +kernel, by decide +kernel⟩
abbrev s_law_live_here : Stmt := (top 47)
abbrev N_law_live_here : List Str := ["_law_told", "_law_i", "_law_j", "_law_name_here"]
theorem sc_law_live_here : FnScope N_law_live_here ["_law_told", "_law_i", "_law_j"] (defScope s_law_live_here) := ⟨rfl, rfl, rfl, by decide +kernel, rfl, by decide +kernel, by decide +kernel⟩
abbrev s_law_joined : Stmt := (top 48)
abbrev N_law_joined : List Str := ["_law_told", "_law_fact_here"]
theorem sc_law_joined : FnScope N_law_joined ["_law_told", "_law_fact_here"] (defScope s_law_joined) := ⟨rfl, rfl, rfl, by decide +kernel, rfl, by decide +kernel, by decide +kernel⟩
abbrev s_law_fact : Stmt := (top 49)
abbrev N_law_fact : List Str := ["_law_told", "_law_said", "_law_fact_here", "_law_most", "_law_k"]
theorem sc_law_fact : FnScope N_law_fact ["_law_told", "_law_said", "_law_fact_here", "_law_most"] (defScope s_law_fact) := ⟨rfl, rfl, rfl, by decide +kernel, rfl, by decide +kernel, by decide +kernel⟩
abbrev s_law_odd : Stmt := (top 50)
abbrev N_law_odd : List Str := ["_law_told", "_law_said", "_law_bar", "_law_most", "_law_left", "_law_apart", "_law_fact_here", "_law_one", "_law_pair"]
theorem sc_law_odd : FnScope N_law_odd ["_law_told", "_law_said", "_law_bar", "_law_most"] (defScope s_law_odd) := ⟨rfl, rfl, rfl, by decide +kernel, rfl, by decide +kernel, by decide +kernel⟩
abbrev s_law_clash : Stmt := (top 46)
abbrev N_law_clash : List Str := ["_law_told", "_law_bar", "_law_most", "_law_k"]
theorem sc_law_clash : FnScope N_law_clash ["_law_told", "_law_bar", "_law_most"] (defScope s_law_clash) := ⟨rfl, rfl, rfl, by decide +kernel, rfl, by decide +kernel, by decide +kernel⟩
abbrev s_Sums_lasts : Stmt := (inClass (top 26) 2)
abbrev N_Sums_lasts : List Str := ["self", "row"]
theorem sc_Sums_lasts : FnScope N_Sums_lasts ["self"] (defScope s_Sums_lasts) := ⟨rfl, rfl, rfl, by decide +kernel, rfl, by decide +kernel, by decide +kernel⟩
abbrev s_Joints_check_open : Stmt := (inClass (top 28) 3)
abbrev N_Joints_check_open : List Str := ["self"]
theorem sc_Joints_check_open : FnScope N_Joints_check_open ["self"] (defScope s_Joints_check_open) := ⟨rfl, rfl, rfl, by decide +kernel, rfl, by decide +kernel, by decide +kernel⟩
abbrev s_Joints_loose : Stmt := (inClass (top 28) 5)
abbrev N_Joints_loose : List Str := ["self", "lasts", "pair"]
theorem sc_Joints_loose : FnScope N_Joints_loose ["self"] (defScope s_Joints_loose) := ⟨rfl, rfl, rfl, by decide +kernel, rfl, by decide +kernel, by decide +kernel⟩
abbrev s_Joints_many_ways : Stmt := (inClass (top 28) 6)
abbrev N_Joints_many_ways : List Str := ["self", "many", "pair"]
theorem sc_Joints_many_ways : FnScope N_Joints_many_ways ["self"] (defScope s_Joints_many_ways) := ⟨rfl, rfl, rfl, by decide +kernel, rfl, by decide +kernel, by decide +kernel⟩
abbrev s_law_against : Stmt := (top 33)
abbrev N_law_against : List Str := ["_law_row_here", "_law_founder_here", "_law_told", "_law_at"]
theorem sc_law_against : FnScope N_law_against ["_law_row_here", "_law_founder_here"] (defScope s_law_against) := ⟨rfl, rfl, rfl, by decide +kernel, rfl, by decide +kernel, by decide +kernel⟩
abbrev s_Joints_bar_of : Stmt := (inClass (top 28) 2)
abbrev N_Joints_bar_of : List Str := ["self"]
theorem sc_Joints_bar_of : FnScope N_Joints_bar_of ["self"] (defScope s_Joints_bar_of) := ⟨rfl, rfl, rfl, by decide +kernel, rfl, by decide +kernel, by decide +kernel⟩
abbrev s_unlike : Stmt := (top 24)
abbrev N_unlike : List Str := ["one", "other", "left", "thing"]
theorem sc_unlike : FnScope N_unlike ["one", "other"] (defScope s_unlike) := ⟨rfl, rfl, rfl, by decide +kernel, rfl, by decide +kernel, by decide +kernel⟩
abbrev s_summed : Stmt := (top 25)
abbrev N_summed : List Str := ["one", "other"]
theorem sc_summed : FnScope N_summed ["one", "other"] (defScope s_summed) := ⟨rfl, rfl, rfl, by decide +kernel, rfl, by decide +kernel, by decide +kernel⟩
abbrev s_Sums_lessened : Stmt := (inClass (top 26) 3)
abbrev N_Sums_lessened : List Str := ["self", "row", "mine"]
theorem sc_Sums_lessened : FnScope N_Sums_lessened ["self", "row"] (defScope s_Sums_lessened) := ⟨rfl, rfl, rfl, by decide +kernel, rfl, by decide +kernel, by decide +kernel⟩
abbrev s_Sums_take : Stmt := (inClass (top 26) 4)
abbrev N_Sums_take : List Str := ["self", "pairs", "right", "number", "row", "last", "fresh", "mine"]
theorem sc_Sums_take : FnScope N_Sums_take ["self", "pairs", "right", "number"] (defScope s_Sums_take) := ⟨rfl, rfl, rfl, by decide +kernel, rfl, by decide +kernel, by decide +kernel⟩
abbrev s_sum_of : Stmt := (top 22)
abbrev N_sum_of : List Str := ["fact"]
theorem sc_sum_of : FnScope N_sum_of ["fact"] (defScope s_sum_of) := ⟨rfl, rfl, rfl, by decide +kernel, rfl, by decide +kernel, by decide +kernel⟩
abbrev s_pairs_of : Stmt := (top 10)
abbrev N_pairs_of : List Str := ["marks", "found", "k", "one", "other"]
theorem sc_pairs_of : FnScope N_pairs_of ["marks"] (defScope s_pairs_of) := ⟨rfl, rfl, rfl, by decide +kernel, rfl, by decide +kernel, by decide +kernel⟩
abbrev s_mixed_at : Stmt := (top 5)
abbrev N_mixed_at : List Str := ["sight", "at", "mark"]
theorem sc_mixed_at : FnScope N_mixed_at ["sight"] (defScope s_mixed_at) := ⟨rfl, rfl, rfl, by decide +kernel, rfl, by decide +kernel, by decide +kernel⟩
abbrev s_live_pairs : Stmt := (top 17)
abbrev N_live_pairs : List Str := ["folk", "found", "name", "sight", "pair"]
theorem sc_live_pairs : FnScope N_live_pairs ["folk"] (defScope s_live_pairs) := ⟨rfl, rfl, rfl, by decide +kernel, rfl, by decide +kernel, by decide +kernel⟩
abbrev s_ways_of_mark : Stmt := (top 11)
abbrev N_ways_of_mark : List Str := ["mark"]
theorem sc_ways_of_mark : FnScope N_ways_of_mark ["mark"] (defScope s_ways_of_mark) := ⟨rfl, rfl, rfl, by decide +kernel, rfl, by decide +kernel, by decide +kernel⟩
abbrev s_shows : Stmt := (top 12)
abbrev N_shows : List Str := ["sight", "one", "other", "found", "a", "b"]
theorem sc_shows : FnScope N_shows ["sight", "one", "other"] (defScope s_shows) := ⟨rfl, rfl, rfl, by decide +kernel, rfl, by decide +kernel, by decide +kernel⟩
abbrev s_shown_by : Stmt := (top 13)
abbrev N_shown_by : List Str := ["folk", "one", "other", "by", "name", "sight", "pair"]
theorem sc_shown_by : FnScope N_shown_by ["folk", "one", "other"] (defScope s_shown_by) := ⟨rfl, rfl, rfl, by decide +kernel, rfl, by decide +kernel, by decide +kernel⟩
abbrev s_forced : Stmt := (top 19)
abbrev N_forced : List Str := ["folk", "found", "one", "other", "by"]
theorem sc_forced : FnScope N_forced ["folk"] (defScope s_forced) := ⟨rfl, rfl, rfl, by decide +kernel, rfl, by decide +kernel, by decide +kernel⟩
abbrev s_threes : Stmt := (top 18)
abbrev N_threes : List Str := ["name", "sight", "marks", "one", "other"]
theorem sc_threes : FnScope N_threes ["name", "sight"] (defScope s_threes) := ⟨rfl, rfl, rfl, by decide +kernel, rfl, by decide +kernel, by decide +kernel⟩
abbrev s_facts_of : Stmt := (top 21)
abbrev N_facts_of : List Str := ["folk", "said", "found", "name", "sight", "one", "other", "word"]
theorem sc_facts_of : FnScope N_facts_of ["folk", "said"] (defScope s_facts_of) := ⟨rfl, rfl, rfl, by decide +kernel, rfl, by decide +kernel, by decide +kernel⟩
abbrev s_has_all : Stmt := (top 14)
abbrev N_has_all : List Str := ["by", "pair"]
theorem sc_has_all : FnScope N_has_all ["by"] (defScope s_has_all) := ⟨rfl, rfl, rfl, by decide +kernel, rfl, by decide +kernel, by decide +kernel⟩
abbrev s_clash : Stmt := (top 20)
abbrev N_clash : List Str := ["folk", "many", "one", "other", "by"]
theorem sc_clash : FnScope N_clash ["folk", "many"] (defScope s_clash) := ⟨rfl, rfl, rfl, by decide +kernel, rfl, by decide +kernel, by decide +kernel⟩
abbrev s_Joints_looked : Stmt := (inClass (top 28) 1)
abbrev N_Joints_looked : List Str := ["self", "found", "facts", "number", "fact", "made", "pairs", "right", "k"]
theorem sc_Joints_looked : FnScope N_Joints_looked ["self"] (defScope s_Joints_looked) := ⟨rfl, rfl, rfl, by decide +kernel, rfl, by decide +kernel, by decide +kernel⟩
abbrev s_Sums_init__ : Stmt := (inClass (top 26) 0)
abbrev N_Sums_init__ : List Str := ["self"]
theorem sc_Sums_init__ : FnScope N_Sums_init__ ["self"] (defScope s_Sums_init__) := ⟨rfl, rfl, rfl, by decide +kernel, rfl, by decide +kernel, by decide +kernel⟩
abbrev s_changed_mark : Stmt := (top 6)
abbrev N_changed_mark : List Str := ["mark", "ground"]
theorem sc_changed_mark : FnScope N_changed_mark ["mark", "ground"] (defScope s_changed_mark) := ⟨rfl, rfl, rfl, by decide +kernel, rfl, by decide +kernel, by decide +kernel⟩
abbrev s_against : Stmt := (top 7)
abbrev N_against : List Str := ["row", "founder", "mark", "ground"]
theorem sc_against : FnScope N_against ["row", "founder"] (defScope s_against) := ⟨rfl, rfl, rfl, by decide +kernel, rfl, by decide +kernel, by decide +kernel⟩
abbrev s_Joints_init__ : Stmt := (inClass (top 28) 0)
abbrev N_Joints_init__ : List Str := ["self", "founder", "folk", "said", "name", "sight"]
theorem sc_Joints_init__ : FnScope N_Joints_init__ ["self", "founder", "folk", "said"] (defScope s_Joints_init__) := ⟨rfl, rfl, rfl, by decide +kernel, rfl, by decide +kernel, by decide +kernel⟩
abbrev s_law_row : Stmt := (top 31)
abbrev N_law_row : List Str := ["_law_cell_here", "_law_many", "_law_size", "_law_row_here", "_law_seed", "_law_k", "_law_rest", "_law_mixed"]
theorem sc_law_row : FnScope N_law_row ["_law_cell_here", "_law_many", "_law_size"] (defScope s_law_row) := ⟨rfl, rfl, rfl, by decide +kernel, rfl, by decide +kernel, by decide +kernel⟩
abbrev s_law_sayings : Stmt := (top 43)
abbrev N_law_sayings : List Str := ["_law_folk", "_law_cell_here", "_law_said", "_law_steps", "_law_k", "_law_marks_here", "_law_name_here", "_law_sight", "_law_a", "_law_b", "_law_word", "_law_at"]
theorem sc_law_sayings : FnScope N_law_sayings ["_law_folk", "_law_cell_here"] (defScope s_law_sayings) := ⟨rfl, rfl, rfl, by decide +kernel, rfl, by decide +kernel, by decide +kernel⟩
abbrev s_law_cell : Stmt := (top 30)
abbrev N_law_cell : List Str := ["_law_script", "_law_at"]
theorem sc_law_cell : FnScope N_law_cell ["_law_script", "_law_at"] (defScope s_law_cell) := ⟨rfl, rfl, rfl, by decide +kernel, rfl, by decide +kernel, by decide +kernel⟩
abbrev s_law_name : Stmt := (top 36)
abbrev N_law_name : List Str := ["_law_cell_here", "_law_k", "_law_letters", "_law_size", "_law_base", "_law_at", "_law_sign"]
theorem sc_law_name : FnScope N_law_name ["_law_cell_here", "_law_k"] (defScope s_law_name) := ⟨rfl, rfl, rfl, by decide +kernel, rfl, by decide +kernel, by decide +kernel⟩
abbrev s_law_spoilt : Stmt := (top 41)
abbrev N_law_spoilt : List Str := ["_law_sights", "_law_script", "_law_at", "_law_cell_here", "_law_kind", "_law_fresh", "_law_k", "_law_row_here", "_law_steps", "_law_mark", "_law_near"]
theorem sc_law_spoilt : FnScope N_law_spoilt ["_law_sights", "_law_script", "_law_at"] (defScope s_law_spoilt) := ⟨rfl, rfl, rfl, by decide +kernel, rfl, by decide +kernel, by decide +kernel⟩
abbrev s_law_seen : Stmt := (top 34)
abbrev N_law_seen : List Str := ["_law_one", "_law_two", "_law_row_here", "_law_at"]
theorem sc_law_seen : FnScope N_law_seen ["_law_one", "_law_two"] (defScope s_law_seen) := ⟨rfl, rfl, rfl, by decide +kernel, rfl, by decide +kernel, by decide +kernel⟩
abbrev s_law_pair_up : Stmt := (top 35)
abbrev N_law_pair_up : List Str := ["_law_one", "_law_two"]
theorem sc_law_pair_up : FnScope N_law_pair_up ["_law_one", "_law_two"] (defScope s_law_pair_up) := ⟨rfl, rfl, rfl, by decide +kernel, rfl, by decide +kernel, by decide +kernel⟩
abbrev s_law_flip : Stmt := (top 37)
abbrev N_law_flip : List Str := ["_law_row_here", "_law_at"]
theorem sc_law_flip : FnScope N_law_flip ["_law_row_here", "_law_at"] (defScope s_law_flip) := ⟨rfl, rfl, rfl, by decide +kernel, rfl, by decide +kernel, by decide +kernel⟩
abbrev s_law_grown : Stmt := (top 38)
abbrev N_law_grown : List Str := ["_law_founder_here", "_law_cell_here", "_law_rows", "_law_left", "_law_step", "_law_mark"]
theorem sc_law_grown : FnScope N_law_grown ["_law_founder_here", "_law_cell_here"] (defScope s_law_grown) := ⟨rfl, rfl, rfl, by decide +kernel, rfl, by decide +kernel, by decide +kernel⟩
abbrev s_law_founder : Stmt := (top 39)
abbrev N_law_founder : List Str := ["_law_cell_here", "_law_many"]
theorem sc_law_founder : FnScope N_law_founder ["_law_cell_here", "_law_many"] (defScope s_law_founder) := ⟨rfl, rfl, rfl, by decide +kernel, rfl, by decide +kernel, by decide +kernel⟩
abbrev s_law_true : Stmt := (top 40)
abbrev N_law_true : List Str := ["_law_script", "_law_at", "_law_marks_here", "_law_folk", "_law_cell_here", "_law_many", "_law_founder_here", "_law_rows", "_law_pairs", "_law_step", "_law_one"]
theorem sc_law_true : FnScope N_law_true ["_law_script", "_law_at", "_law_marks_here", "_law_folk"] (defScope s_law_true) := ⟨rfl, rfl, rfl, by decide +kernel, rfl, by decide +kernel, by decide +kernel⟩
abbrev s_law_company : Stmt := (top 42)
abbrev N_law_company : List Str := ["_law_script", "_law_at", "_law_marks_here", "_law_folk", "_law_sights", "_law_cell_here", "_law_founder_here", "_law_pairs", "_law_pair", "_law_k"]
theorem sc_law_company : FnScope N_law_company ["_law_script", "_law_at", "_law_marks_here", "_law_folk"] (defScope s_law_company) := ⟨rfl, rfl, rfl, by decide +kernel, rfl, by decide +kernel, by decide +kernel⟩
abbrev s_law_k15 : Stmt := (top 51)
abbrev N_law_k15 : List Str := ["_law_script", "_law_said", "_law_pick", "_law_company_here", "_law_bar", "_law_told", "_law_base", "_law_folk", "_law_name_here", "_law_sight", "_law_i", "_law_j", "_law_word"]
theorem sc_law_k15 : FnScope N_law_k15 ["_law_script"] (defScope s_law_k15) := ⟨rfl, rfl, rfl, by decide +kernel, rfl, by decide +kernel, by decide +kernel⟩
def fns0 : List He.DefD := [dd ("_law_whole", none) "_law_whole" "_law_whole" s_law_whole, dd ("_law_marks", none) "_law_marks" "_law_marks" s_law_marks_v3, dd ("_law_shows", none) "_law_shows" "_law_shows" s_law_shows, dd ("_law_live_here", none) "_law_live_here" "_law_live_here" s_law_live_here, dd ("_law_joined", none) "_law_joined" "_law_joined" s_law_joined, dd ("_law_fact", none) "_law_fact" "_law_fact" s_law_fact, dd ("_law_odd", none) "_law_odd" "_law_odd" s_law_odd, dd ("_law_clash", none) "_law_clash" "_law_clash" s_law_clash, dd ("Sums", some "lasts") "lasts" "Sums.lasts" s_Sums_lasts, dd ("Joints", some "check_open") "check_open" "Joints.check_open" s_Joints_check_open, dd ("Joints", some "loose") "loose" "Joints.loose" s_Joints_loose, dd ("Joints", some "many_ways") "many_ways" "Joints.many_ways" s_Joints_many_ways, dd ("_law_against", none) "_law_against" "_law_against" s_law_against, dd ("Joints", some "bar_of") "bar_of" "Joints.bar_of" s_Joints_bar_of, dd ("unlike", none) "unlike" "unlike" s_unlike, dd ("summed", none) "summed" "summed" s_summed, dd ("Sums", some "lessened") "lessened" "Sums.lessened" s_Sums_lessened, dd ("Sums", some "take") "take" "Sums.take" s_Sums_take, dd ("sum_of", none) "sum_of" "sum_of" s_sum_of, dd ("pairs_of", none) "pairs_of" "pairs_of" s_pairs_of]
def fns1 : List He.DefD := [dd ("mixed_at", none) "mixed_at" "mixed_at" s_mixed_at, dd ("live_pairs", none) "live_pairs" "live_pairs" s_live_pairs, dd ("ways_of_mark", none) "ways_of_mark" "ways_of_mark" s_ways_of_mark, dd ("shows", none) "shows" "shows" s_shows, dd ("shown_by", none) "shown_by" "shown_by" s_shown_by, dd ("forced", none) "forced" "forced" s_forced, dd ("threes", none) "threes" "threes" s_threes, dd ("facts_of", none) "facts_of" "facts_of" s_facts_of, dd ("has_all", none) "has_all" "has_all" s_has_all, dd ("clash", none) "clash" "clash" s_clash, dd ("Joints", some "looked") "looked" "Joints.looked" s_Joints_looked, dd ("Sums", some "__init__") "__init__" "Sums.__init__" s_Sums_init__, dd ("changed_mark", none) "changed_mark" "changed_mark" s_changed_mark, dd ("against", none) "against" "against" s_against, dd ("Joints", some "__init__") "__init__" "Joints.__init__" s_Joints_init__, dd ("_law_row", none) "_law_row" "_law_row" s_law_row, dd ("_law_sayings", none) "_law_sayings" "_law_sayings" s_law_sayings, dd ("_law_cell", none) "_law_cell" "_law_cell" s_law_cell, dd ("_law_name", none) "_law_name" "_law_name" s_law_name, dd ("_law_spoilt", none) "_law_spoilt" "_law_spoilt" s_law_spoilt]
def fns2 : List He.DefD := [dd ("_law_seen", none) "_law_seen" "_law_seen" s_law_seen, dd ("_law_pair_up", none) "_law_pair_up" "_law_pair_up" s_law_pair_up, dd ("_law_flip", none) "_law_flip" "_law_flip" s_law_flip, dd ("_law_grown", none) "_law_grown" "_law_grown" s_law_grown, dd ("_law_founder", none) "_law_founder" "_law_founder" s_law_founder, dd ("_law_true", none) "_law_true" "_law_true" s_law_true, dd ("_law_company", none) "_law_company" "_law_company" s_law_company, dd ("law", none) "law" "law" s_law_k15]
def fns : List He.DefD := fns0 ++ (fns1 ++ (fns2))
def fcs0 : List He.Fa := [.free "range", .free "isinstance", .free "bool", .free "int", .glo "_law_whole", .glo "_law_marks", .free "len", .glo "_law_shows", .free "any", .glo "_law_live_here", .glo "_law_joined", .free "tuple", .glo "_law_fact", .glo "_law_odd", .glo "_law_clash", .cls "Joints", .noat "Joints" "pairs", .cls "Sums", .noat "Sums" "kept", .meth "Sums" "lasts"]
def fcs1 : List He.Fa := [.noat "Joints" "sums", .noat "Joints" "paper", .exc "Barred", .glo "Barred", .meth "Joints" "check_open", .meth "Joints" "loose", .meth "Joints" "many_ways", .glo "_law_against", .meth "Joints" "bar_of", .free "enumerate", .free "sorted", .glo "unlike", .glo "summed", .meth "Sums" "lessened", .meth "Sums" "take", .glo "RIGHTS", .glo "sum_of", .glo "pairs_of", .glo "mixed_at", .glo "live_pairs"]
def fcs2 : List He.Fa := [.glo "ways_of_mark", .glo "shows", .glo "shown_by", .glo "forced", .glo "threes", .glo "facts_of", .noat "Joints" "said", .noat "Joints" "told", .free "list", .free "all", .glo "has_all", .glo "clash", .noat "Joints" "base", .meth "Joints" "looked", .mkr "Sums", .glo "Sums", .free "zip", .glo "changed_mark", .glo "against", .noat "Joints" "folk"]
def fcs3 : List He.Fa := [.mkr "Joints", .glo "Joints", .free "max", .free "min", .glo "_law_row", .glo "_law_sayings", .glo "_law_cell", .glo "_law_name", .glo "_law_spoilt", .glo "_law_seen", .glo "_law_pair_up", .glo "_law_flip", .glo "_law_grown", .glo "_law_founder", .glo "_law_true", .glo "_law_company", .glo "law"]
def fcs : List He.Fa := fcs0 ++ (fcs1 ++ (fcs2 ++ (fcs3)))
def lnames0 : List PySem.Str := ["_wall", "MixError", "Barred", "mixed_at", "changed_mark", "against", "BARRING", "pairs_of", "ways_of_mark", "shows", "shown_by", "has_all", "RIGHTS", "live_pairs", "threes", "forced", "clash", "facts_of", "sum_of", "unlike"]
def lnames1 : List PySem.Str := ["summed", "Sums", "Joints", "_law_cell", "_law_row", "_law_whole", "_law_against", "_law_seen", "_law_pair_up", "_law_name", "_law_flip", "_law_grown", "_law_founder", "_law_true", "_law_spoilt", "_law_company", "_law_sayings", "_law_shows", "_law_marks", "_law_clash"]
def lnames2 : List PySem.Str := ["_law_live_here", "_law_joined", "_law_fact", "_law_odd"]
def lnames : List PySem.Str := lnames0 ++ (lnames1 ++ (lnames2))
def kt_RIGHTS : List (Str × He.Dv) := [("together", .int 0), ("apart", .int 1)]
def tbs : List He.Tab := [(fun K => He.ga K "RIGHTS", kt_RIGHTS.map (·.1))]
/-- what the top leaves -/
def exC (K : PySem.W.Frag) : Bool := He.valsB K (He.ga K "RIGHTS") kt_RIGHTS && (conB K "BARRING" (fz [(fz [(.int 0), (.int 1)]), (fz [(.int 1), (.int 0)]), (fz [(.int 1), (.int 1)])]) && (true))
structure Tx (w : World) (K : PySem.W.Frag) (mg : Str → Option Value) : Prop where
  tab : He.SaysT fcs fns tbs w K
  con : exC K = true
  ok : ∃ h : Heap, K.In h ∧ h.Ns mainGlobals mg
variable {P : Program} {w : World} {K : PySem.W.Frag} {mg : Str → Option Value} {base : Heap}
theorem Tx.says (T : Tx w K mg) : He.SaysD fcs fns K := T.tab.d
theorem Tx.free_range (T : Tx w K mg) : mg "range" = none := let ⟨_, X, G⟩ := T.ok; He.free_ok X G (T.says.fact 0 rfl)
theorem Tx.free_isinstance (T : Tx w K mg) : mg "isinstance" = none := let ⟨_, X, G⟩ := T.ok; He.free_ok X G (T.says.fact 1 rfl)
theorem Tx.free_bool (T : Tx w K mg) : mg "bool" = none := let ⟨_, X, G⟩ := T.ok; He.free_ok X G (T.says.fact 2 rfl)
theorem Tx.free_int (T : Tx w K mg) : mg "int" = none := let ⟨_, X, G⟩ := T.ok; He.free_ok X G (T.says.fact 3 rfl)
theorem Tx.glo_law_whole (T : Tx w K mg) : mg "_law_whole" = some (.ref (He.ga K "_law_whole")) := let ⟨_, X, G⟩ := T.ok; He.glo_ok X G (T.says.fact 4 rfl)
theorem Tx.glo_law_marks (T : Tx w K mg) : mg "_law_marks" = some (.ref (He.ga K "_law_marks")) := let ⟨_, X, G⟩ := T.ok; He.glo_ok X G (T.says.fact 5 rfl)
theorem Tx.free_len (T : Tx w K mg) : mg "len" = none := let ⟨_, X, G⟩ := T.ok; He.free_ok X G (T.says.fact 6 rfl)
theorem Tx.glo_law_shows (T : Tx w K mg) : mg "_law_shows" = some (.ref (He.ga K "_law_shows")) := let ⟨_, X, G⟩ := T.ok; He.glo_ok X G (T.says.fact 7 rfl)
theorem Tx.free_any (T : Tx w K mg) : mg "any" = none := let ⟨_, X, G⟩ := T.ok; He.free_ok X G (T.says.fact 8 rfl)
theorem Tx.glo_law_live_here (T : Tx w K mg) : mg "_law_live_here" = some (.ref (He.ga K "_law_live_here")) := let ⟨_, X, G⟩ := T.ok; He.glo_ok X G (T.says.fact 9 rfl)
theorem Tx.glo_law_joined (T : Tx w K mg) : mg "_law_joined" = some (.ref (He.ga K "_law_joined")) := let ⟨_, X, G⟩ := T.ok; He.glo_ok X G (T.says.fact 10 rfl)
theorem Tx.free_tuple (T : Tx w K mg) : mg "tuple" = none := let ⟨_, X, G⟩ := T.ok; He.free_ok X G (T.says.fact 11 rfl)
theorem Tx.glo_law_fact (T : Tx w K mg) : mg "_law_fact" = some (.ref (He.ga K "_law_fact")) := let ⟨_, X, G⟩ := T.ok; He.glo_ok X G (T.says.fact 12 rfl)
theorem Tx.glo_law_odd (T : Tx w K mg) : mg "_law_odd" = some (.ref (He.ga K "_law_odd")) := let ⟨_, X, G⟩ := T.ok; He.glo_ok X G (T.says.fact 13 rfl)
theorem Tx.glo_law_clash (T : Tx w K mg) : mg "_law_clash" = some (.ref (He.ga K "_law_clash")) := let ⟨_, X, G⟩ := T.ok; He.glo_ok X G (T.says.fact 14 rfl)
theorem Tx.cls_Joints (T : Tx w K mg) : Cls K (He.ga K "Joints") := He.cls_ok (T.says.fact 15 rfl)
theorem Tx.noat_Joints_pairs (T : Tx w K mg) : NoAttr K (He.ga K "Joints") "pairs" := He.noat_ok (T.says.fact 16 rfl)
theorem Tx.cls_Sums (T : Tx w K mg) : Cls K (He.ga K "Sums") := He.cls_ok (T.says.fact 17 rfl)
theorem Tx.noat_Sums_kept (T : Tx w K mg) : NoAttr K (He.ga K "Sums") "kept" := He.noat_ok (T.says.fact 18 rfl)
theorem Tx.meth_Sums_lasts (T : Tx w K mg) : Meth K (He.ga K "Sums") "lasts" (He.ma K (He.ga K "Sums") "lasts") := He.meth_ok (T.says.fact 19 rfl)
theorem Tx.noat_Joints_sums (T : Tx w K mg) : NoAttr K (He.ga K "Joints") "sums" := He.noat_ok (T.says.fact 20 rfl)
theorem Tx.noat_Joints_paper (T : Tx w K mg) : NoAttr K (He.ga K "Joints") "paper" := He.noat_ok (T.says.fact 21 rfl)
theorem Tx.glo_Barred (T : Tx w K mg) : mg "Barred" = some (.ref (He.ga K "Barred")) := let ⟨_, X, G⟩ := T.ok; He.glo_ok X G (T.says.fact 23 rfl)
theorem Tx.meth_Joints_check_open (T : Tx w K mg) : Meth K (He.ga K "Joints") "check_open" (He.ma K (He.ga K "Joints") "check_open") := He.meth_ok (T.says.fact 24 rfl)
theorem Tx.meth_Joints_loose (T : Tx w K mg) : Meth K (He.ga K "Joints") "loose" (He.ma K (He.ga K "Joints") "loose") := He.meth_ok (T.says.fact 25 rfl)
theorem Tx.meth_Joints_many_ways (T : Tx w K mg) : Meth K (He.ga K "Joints") "many_ways" (He.ma K (He.ga K "Joints") "many_ways") := He.meth_ok (T.says.fact 26 rfl)
theorem Tx.glo_law_against (T : Tx w K mg) : mg "_law_against" = some (.ref (He.ga K "_law_against")) := let ⟨_, X, G⟩ := T.ok; He.glo_ok X G (T.says.fact 27 rfl)
theorem Tx.meth_Joints_bar_of (T : Tx w K mg) : Meth K (He.ga K "Joints") "bar_of" (He.ma K (He.ga K "Joints") "bar_of") := He.meth_ok (T.says.fact 28 rfl)
theorem Tx.free_enumerate (T : Tx w K mg) : mg "enumerate" = none := let ⟨_, X, G⟩ := T.ok; He.free_ok X G (T.says.fact 29 rfl)
theorem Tx.free_sorted (T : Tx w K mg) : mg "sorted" = none := let ⟨_, X, G⟩ := T.ok; He.free_ok X G (T.says.fact 30 rfl)
theorem Tx.glo_unlike (T : Tx w K mg) : mg "unlike" = some (.ref (He.ga K "unlike")) := let ⟨_, X, G⟩ := T.ok; He.glo_ok X G (T.says.fact 31 rfl)
theorem Tx.glo_summed (T : Tx w K mg) : mg "summed" = some (.ref (He.ga K "summed")) := let ⟨_, X, G⟩ := T.ok; He.glo_ok X G (T.says.fact 32 rfl)
theorem Tx.meth_Sums_lessened (T : Tx w K mg) : Meth K (He.ga K "Sums") "lessened" (He.ma K (He.ga K "Sums") "lessened") := He.meth_ok (T.says.fact 33 rfl)
theorem Tx.meth_Sums_take (T : Tx w K mg) : Meth K (He.ga K "Sums") "take" (He.ma K (He.ga K "Sums") "take") := He.meth_ok (T.says.fact 34 rfl)
theorem Tx.glo_RIGHTS (T : Tx w K mg) : mg "RIGHTS" = some (.ref (He.ga K "RIGHTS")) := let ⟨_, X, G⟩ := T.ok; He.glo_ok X G (T.says.fact 35 rfl)
theorem Tx.glo_sum_of (T : Tx w K mg) : mg "sum_of" = some (.ref (He.ga K "sum_of")) := let ⟨_, X, G⟩ := T.ok; He.glo_ok X G (T.says.fact 36 rfl)
theorem Tx.glo_pairs_of (T : Tx w K mg) : mg "pairs_of" = some (.ref (He.ga K "pairs_of")) := let ⟨_, X, G⟩ := T.ok; He.glo_ok X G (T.says.fact 37 rfl)
theorem Tx.glo_mixed_at (T : Tx w K mg) : mg "mixed_at" = some (.ref (He.ga K "mixed_at")) := let ⟨_, X, G⟩ := T.ok; He.glo_ok X G (T.says.fact 38 rfl)
theorem Tx.glo_live_pairs (T : Tx w K mg) : mg "live_pairs" = some (.ref (He.ga K "live_pairs")) := let ⟨_, X, G⟩ := T.ok; He.glo_ok X G (T.says.fact 39 rfl)
theorem Tx.glo_ways_of_mark (T : Tx w K mg) : mg "ways_of_mark" = some (.ref (He.ga K "ways_of_mark")) := let ⟨_, X, G⟩ := T.ok; He.glo_ok X G (T.says.fact 40 rfl)
theorem Tx.glo_shows (T : Tx w K mg) : mg "shows" = some (.ref (He.ga K "shows")) := let ⟨_, X, G⟩ := T.ok; He.glo_ok X G (T.says.fact 41 rfl)
theorem Tx.glo_shown_by (T : Tx w K mg) : mg "shown_by" = some (.ref (He.ga K "shown_by")) := let ⟨_, X, G⟩ := T.ok; He.glo_ok X G (T.says.fact 42 rfl)
theorem Tx.glo_forced (T : Tx w K mg) : mg "forced" = some (.ref (He.ga K "forced")) := let ⟨_, X, G⟩ := T.ok; He.glo_ok X G (T.says.fact 43 rfl)
theorem Tx.glo_threes (T : Tx w K mg) : mg "threes" = some (.ref (He.ga K "threes")) := let ⟨_, X, G⟩ := T.ok; He.glo_ok X G (T.says.fact 44 rfl)
theorem Tx.glo_facts_of (T : Tx w K mg) : mg "facts_of" = some (.ref (He.ga K "facts_of")) := let ⟨_, X, G⟩ := T.ok; He.glo_ok X G (T.says.fact 45 rfl)
theorem Tx.noat_Joints_said (T : Tx w K mg) : NoAttr K (He.ga K "Joints") "said" := He.noat_ok (T.says.fact 46 rfl)
theorem Tx.noat_Joints_told (T : Tx w K mg) : NoAttr K (He.ga K "Joints") "told" := He.noat_ok (T.says.fact 47 rfl)
theorem Tx.free_list (T : Tx w K mg) : mg "list" = none := let ⟨_, X, G⟩ := T.ok; He.free_ok X G (T.says.fact 48 rfl)
theorem Tx.free_all (T : Tx w K mg) : mg "all" = none := let ⟨_, X, G⟩ := T.ok; He.free_ok X G (T.says.fact 49 rfl)
theorem Tx.glo_has_all (T : Tx w K mg) : mg "has_all" = some (.ref (He.ga K "has_all")) := let ⟨_, X, G⟩ := T.ok; He.glo_ok X G (T.says.fact 50 rfl)
theorem Tx.glo_clash (T : Tx w K mg) : mg "clash" = some (.ref (He.ga K "clash")) := let ⟨_, X, G⟩ := T.ok; He.glo_ok X G (T.says.fact 51 rfl)
theorem Tx.noat_Joints_base (T : Tx w K mg) : NoAttr K (He.ga K "Joints") "base" := He.noat_ok (T.says.fact 52 rfl)
theorem Tx.meth_Joints_looked (T : Tx w K mg) : Meth K (He.ga K "Joints") "looked" (He.ma K (He.ga K "Joints") "looked") := He.meth_ok (T.says.fact 53 rfl)
theorem Tx.mkr_Sums (T : Tx w K mg) : Mk K (He.ga K "Sums") (He.ma K (He.ga K "Sums") "__init__") := He.mkr_ok (T.says.fact 54 rfl)
theorem Tx.glo_Sums (T : Tx w K mg) : mg "Sums" = some (.ref (He.ga K "Sums")) := let ⟨_, X, G⟩ := T.ok; He.glo_ok X G (T.says.fact 55 rfl)
theorem Tx.free_zip (T : Tx w K mg) : mg "zip" = none := let ⟨_, X, G⟩ := T.ok; He.free_ok X G (T.says.fact 56 rfl)
theorem Tx.glo_changed_mark (T : Tx w K mg) : mg "changed_mark" = some (.ref (He.ga K "changed_mark")) := let ⟨_, X, G⟩ := T.ok; He.glo_ok X G (T.says.fact 57 rfl)
theorem Tx.glo_against (T : Tx w K mg) : mg "against" = some (.ref (He.ga K "against")) := let ⟨_, X, G⟩ := T.ok; He.glo_ok X G (T.says.fact 58 rfl)
theorem Tx.noat_Joints_folk (T : Tx w K mg) : NoAttr K (He.ga K "Joints") "folk" := He.noat_ok (T.says.fact 59 rfl)
theorem Tx.mkr_Joints (T : Tx w K mg) : Mk K (He.ga K "Joints") (He.ma K (He.ga K "Joints") "__init__") := He.mkr_ok (T.says.fact 60 rfl)
theorem Tx.glo_Joints (T : Tx w K mg) : mg "Joints" = some (.ref (He.ga K "Joints")) := let ⟨_, X, G⟩ := T.ok; He.glo_ok X G (T.says.fact 61 rfl)
theorem Tx.free_max (T : Tx w K mg) : mg "max" = none := let ⟨_, X, G⟩ := T.ok; He.free_ok X G (T.says.fact 62 rfl)
theorem Tx.free_min (T : Tx w K mg) : mg "min" = none := let ⟨_, X, G⟩ := T.ok; He.free_ok X G (T.says.fact 63 rfl)
theorem Tx.glo_law_row (T : Tx w K mg) : mg "_law_row" = some (.ref (He.ga K "_law_row")) := let ⟨_, X, G⟩ := T.ok; He.glo_ok X G (T.says.fact 64 rfl)
theorem Tx.glo_law_sayings (T : Tx w K mg) : mg "_law_sayings" = some (.ref (He.ga K "_law_sayings")) := let ⟨_, X, G⟩ := T.ok; He.glo_ok X G (T.says.fact 65 rfl)
theorem Tx.glo_law_cell (T : Tx w K mg) : mg "_law_cell" = some (.ref (He.ga K "_law_cell")) := let ⟨_, X, G⟩ := T.ok; He.glo_ok X G (T.says.fact 66 rfl)
theorem Tx.glo_law_name (T : Tx w K mg) : mg "_law_name" = some (.ref (He.ga K "_law_name")) := let ⟨_, X, G⟩ := T.ok; He.glo_ok X G (T.says.fact 67 rfl)
theorem Tx.glo_law_spoilt (T : Tx w K mg) : mg "_law_spoilt" = some (.ref (He.ga K "_law_spoilt")) := let ⟨_, X, G⟩ := T.ok; He.glo_ok X G (T.says.fact 68 rfl)
theorem Tx.glo_law_seen (T : Tx w K mg) : mg "_law_seen" = some (.ref (He.ga K "_law_seen")) := let ⟨_, X, G⟩ := T.ok; He.glo_ok X G (T.says.fact 69 rfl)
theorem Tx.glo_law_pair_up (T : Tx w K mg) : mg "_law_pair_up" = some (.ref (He.ga K "_law_pair_up")) := let ⟨_, X, G⟩ := T.ok; He.glo_ok X G (T.says.fact 70 rfl)
theorem Tx.glo_law_flip (T : Tx w K mg) : mg "_law_flip" = some (.ref (He.ga K "_law_flip")) := let ⟨_, X, G⟩ := T.ok; He.glo_ok X G (T.says.fact 71 rfl)
theorem Tx.glo_law_grown (T : Tx w K mg) : mg "_law_grown" = some (.ref (He.ga K "_law_grown")) := let ⟨_, X, G⟩ := T.ok; He.glo_ok X G (T.says.fact 72 rfl)
theorem Tx.glo_law_founder (T : Tx w K mg) : mg "_law_founder" = some (.ref (He.ga K "_law_founder")) := let ⟨_, X, G⟩ := T.ok; He.glo_ok X G (T.says.fact 73 rfl)
theorem Tx.glo_law_true (T : Tx w K mg) : mg "_law_true" = some (.ref (He.ga K "_law_true")) := let ⟨_, X, G⟩ := T.ok; He.glo_ok X G (T.says.fact 74 rfl)
theorem Tx.glo_law_company (T : Tx w K mg) : mg "_law_company" = some (.ref (He.ga K "_law_company")) := let ⟨_, X, G⟩ := T.ok; He.glo_ok X G (T.says.fact 75 rfl)
theorem Tx.glo_law (T : Tx w K mg) : mg "law" = some (.ref (He.ga K "law")) := let ⟨_, X, G⟩ := T.ok; He.glo_ok X G (T.says.fact 76 rfl)
theorem Tx.excw_Barred (T : Tx w K mg) : PySem.W.excIn K (He.ga K "Barred") He.veBase "ValueError.__new__" = true ∧ PySem.W.keepIn K (.ref (He.ga K "Barred")) = true ∧ PySem.W.subIn K (.ref (He.ga K "Barred")) (.type "BaseException") = some true ∧ PySem.W.typeIn K (.ref (He.ga K "Barred")) = some (.type "type") := He.exc_ok (T.says.fact 22 rfl)
theorem Tx.exc_Barred {X : Cx} (T : Tx w X.K X.mg) : ExcOk X "Barred" := ⟨T.excw_Barred.1, T.excw_Barred.2.1, raises_own T.excw_Barred.2.2.1 T.excw_Barred.2.2.2, T.glo_Barred⟩
theorem Tx.kdv_RIGHTS (T : Tx w K mg) : He.valsB K (He.ga K "RIGHTS") kt_RIGHTS = true := (Bool.and_eq_true_iff.mp T.con).1
theorem Tx.kd_RIGHTS (T : Tx w K mg) : IsKd K w mg "RIGHTS" [("together", .int 0), ("apart", .int 1)] := kd_of T.tab 0 rfl T.glo_RIGHTS T.kdv_RIGHTS
theorem Tx.con_BARRING (T : Tx w K mg) : IsCon K mg "BARRING" (fz [(fz [(.int 0), (.int 1)]), (fz [(.int 1), (.int 0)]), (fz [(.int 1), (.int 1)])]) := let ⟨_, X, G⟩ := T.ok; con_ok X G (Bool.and_eq_true_iff.mp (Bool.and_eq_true_iff.mp T.con).2).1
theorem room2 {k : Nat} {A : Around} (hr : Room k A) : A.units + 1 < cLine := by have := hr.un; omega
theorem room64 {k : Nat} {A : Around} (hr : Room k A) : A.units + 64 < cLine := by have := hr.un; omega
theorem room65 {k : Nat} {A : Around} (hr : Room k A) : A.units + 65 < cLine := by have := hr.un; omega
theorem kn_law_whole (T : Tx w K mg) : Knows P w K mg base "_law_whole" 1 ["_law_found"] f_law_whole :=
  kn_mk (st := s_law_whole) (T.says.def_ 0 rfl) sc_law_whole T.glo_law_whole (fun _ _ _ _ _ _ us hl => match us, hl with | [_], _ => rfl) fun cdv A outer s H E hr hx => by
  have hp := owns_cx (P := P) (w := w) (K := K) (mg := mg) (base := base) (N := N_law_whole) (qual := "_law_whole") (scope := defScope s_law_whole) (f := (He.ga K "_law_whole")) (cdv := cdv) (A := A) (outer := outer) (s := s) (H := H) (E := E)
  have tk := takes_cx (P := P) (w := w) (K := K) (mg := mg) (base := base) (N := N_law_whole) (qual := "_law_whole") (scope := defScope s_law_whole) (f := (He.ga K "_law_whole")) (cdv := cdv) (A := A) (outer := outer) (s := s) (H := H) (E := E)
  exact (dss_one (ds_ret (de_and (de_isi (by rfl) (T.free_isinstance) (by rfl) (T.free_int) (by decide +kernel) (de_var 0 (pv 0))) (de_one (de_not (de_isi (by rfl) (T.free_isinstance) (by rfl) (T.free_bool) (by decide +kernel) (de_var 0 (pv 0))))))))
theorem kn_law_marks_v3 (T : Tx w K mg) : Knows P w K mg base "_law_marks" 2 ["_law_fact_here", "_law_first", "_law_many", "_law_most"] f_law_marks_v3 :=
  kn_mk (st := s_law_marks_v3) (T.says.def_ 1 rfl) sc_law_marks_v3 T.glo_law_marks (fun _ _ _ _ _ _ us hl => match us, hl with | [_, _, _, _], _ => rfl) fun cdv A outer s H E hr hx => by
  have hp := owns_cx (P := P) (w := w) (K := K) (mg := mg) (base := base) (N := N_law_marks_v3) (qual := "_law_marks") (scope := defScope s_law_marks_v3) (f := (He.ga K "_law_marks")) (cdv := cdv) (A := A) (outer := outer) (s := s) (H := H) (E := E)
  have tk := takes_cx (P := P) (w := w) (K := K) (mg := mg) (base := base) (N := N_law_marks_v3) (qual := "_law_marks") (scope := defScope s_law_marks_v3) (f := (He.ga K "_law_marks")) (cdv := cdv) (A := A) (outer := outer) (s := s) (H := H) (E := E)
  exact (dss_cons (ds_for hp rfl (di_rng1 (by rfl) (T.free_range) (da_cons (de_var 2 (pv 2)) da_nil)) (dg_name (i := 4) sc_law_marks_v3.nd rfl (by first | exact Or.inl rfl | exact Or.inr rfl)) (dss_cons (ds_if (DW.dt (dw_or (dt_not (dt_val (de_kn (kn_law_whole T) (hr.mono (by decide)) (by rfl) hx (da_cons (de_ix (de_var 0 (pv 0)) (de_op op_addA od_add (de_var 1 (pv 1)) (de_var 4 (pv 4))) (fun _ _ => rfl)) da_nil) (aCons_len aNil_len)))) (dw_or (dt_cmp (op_cmpA (op := .Lt) rfl hr.units) od_cmp (de_ix (de_var 0 (pv 0)) (de_op op_addA od_add (de_var 1 (pv 1)) (de_var 4 (pv 4))) (fun _ _ => rfl)) de_int (nomark _)) (dw_or1 (dt_cmp (op_cmpA (op := .GtE) rfl hr.units) od_cmp (de_ix (de_var 0 (pv 0)) (de_op op_addA od_add (de_var 1 (pv 1)) (de_var 4 (pv 4))) (fun _ _ => rfl)) (de_var 3 (pv 3)) (nomark _)))))) (dss_one (ds_ret de_bl)) dss_nil)
    (dss_one (ds_if (DW.dt (dw_and (dt_cmp (op_cmpA (op := .Gt) rfl hr.units) od_cmp (de_var 4 (pv 4)) de_int (nomark _)) (dw_and1 (dt_cmp (op_cmpA (op := .GtE) rfl hr.units) od_cmp (de_ix (de_var 0 (pv 0)) (de_op op_sub od_sub (de_op op_addA od_add (de_var 1 (pv 1)) (de_var 4 (pv 4))) de_int) (fun _ _ => rfl)) (de_ix (de_var 0 (pv 0)) (de_op op_addA od_add (de_var 1 (pv 1)) (de_var 4 (pv 4))) (fun _ _ => rfl)) (nomark _))))) (dss_one (ds_ret de_bl)) dss_nil))) bN_ne)
    (dss_one (ds_ret de_bl)))
theorem kn_law_shows (T : Tx w K mg) : Knows P w K mg base "_law_shows" 1 ["_law_sight", "_law_i", "_law_j", "_law_pair"] f_law_shows :=
  kn_mk (st := s_law_shows) (T.says.def_ 2 rfl) sc_law_shows T.glo_law_shows (fun _ _ _ _ _ _ us hl => match us, hl with | [_, _, _, _], _ => rfl) fun cdv A outer s H E hr hx => by
  have hp := owns_cx (P := P) (w := w) (K := K) (mg := mg) (base := base) (N := N_law_shows) (qual := "_law_shows") (scope := defScope s_law_shows) (f := (He.ga K "_law_shows")) (cdv := cdv) (A := A) (outer := outer) (s := s) (H := H) (E := E)
  have tk := takes_cx (P := P) (w := w) (K := K) (mg := mg) (base := base) (N := N_law_shows) (qual := "_law_shows") (scope := defScope s_law_shows) (f := (He.ga K "_law_shows")) (cdv := cdv) (A := A) (outer := outer) (s := s) (H := H) (E := E)
  exact (dss_cons (ds_if (DW.dt (dw_and (dt_cmp (op_eqA hr.units) od_eq (de_ix (de_var 0 (pv 0)) (de_var 1 (pv 1)) (fun _ _ => rfl)) de_int (nomark _)) (dw_and1 (dt_cmp (op_eqA hr.units) od_eq (de_ix (de_var 0 (pv 0)) (de_var 2 (pv 2)) (fun _ _ => rfl)) de_int (nomark _))))) (dss_one (ds_ret de_bl)) dss_nil)
    (dss_one (ds_ret (de_and (de_cmp (op_inA (room65 hr)) od_in (de_ix (de_var 0 (pv 0)) (de_var 1 (pv 1)) (fun _ _ => rfl)) (de_tup (da_cons (de_ix (de_var 3 (pv 3)) de_int (fun _ _ => rfl)) (da_cons de_int da_nil))) (by first | rfl | with_unfolding_all rfl)) (de_one (de_cmp (op_inA (room65 hr)) od_in (de_ix (de_var 0 (pv 0)) (de_var 2 (pv 2)) (fun _ _ => rfl)) (de_tup (da_cons (de_ix (de_var 3 (pv 3)) de_int (fun _ _ => rfl)) (da_cons de_int da_nil))) (by first | rfl | with_unfolding_all rfl)))))))
theorem kn_law_live_here (T : Tx w K mg) : Knows P w K mg base "_law_live_here" 1 ["_law_told", "_law_i", "_law_j"] f_law_live_here :=
  kn_mk (st := s_law_live_here) (T.says.def_ 3 rfl) sc_law_live_here T.glo_law_live_here (fun _ _ _ _ _ _ us hl => match us, hl with | [_, _, _], _ => rfl) fun cdv A outer s H E hr hx => by
  have hp := owns_cx (P := P) (w := w) (K := K) (mg := mg) (base := base) (N := N_law_live_here) (qual := "_law_live_here") (scope := defScope s_law_live_here) (f := (He.ga K "_law_live_here")) (cdv := cdv) (A := A) (outer := outer) (s := s) (H := H) (E := E)
  have tk := takes_cx (P := P) (w := w) (K := K) (mg := mg) (base := base) (N := N_law_live_here) (qual := "_law_live_here") (scope := defScope s_law_live_here) (f := (He.ga K "_law_live_here")) (cdv := cdv) (A := A) (outer := outer) (s := s) (H := H) (E := E)
  exact (dss_one (ds_ret (de_lk (i := 0) (de_callB (cr_any rfl) cd_any (by rfl) (T.free_any) (by decide +kernel) (da_cons (de_lc (own := [("_law_name_here", 3)]) (sl := [3]) rfl sc_law_live_here.nd (di_keysL (pv 0)) (blkOk_by (N := N_law_live_here) (sc := defScope s_law_live_here) (by decide +kernel)) (by decide) (fun _ _ _ _ _ => (dg_name (i := 3) sc_law_live_here.nd rfl (by first | exact Or.inl rfl | exact Or.inr rfl))) (fun _ _ _ _ _ => dts_nil) (fun _ _ _ _ _ => (de_and (de_cmp (op_eqA hr.units) od_eq (de_ix (de_getL (room2 hr) (de_var 0 (pv 0)) (de_var 3 (pv 3)) (fun _ _ => rfl)) (de_var 1 (pv 1)) (fun _ _ => rfl)) de_int (nomark _)) (de_one (de_cmp (op_eqA hr.units) od_eq (de_ix (de_getL (room2 hr) (de_var 0 (pv 0)) (de_var 3 (pv 3)) (fun _ _ => rfl)) (de_var 2 (pv 2)) (fun _ _ => rfl)) de_int (nomark _)))))) da_nil)))))
theorem kn_law_joined (T : Tx w K mg) : Knows P w K mg base "_law_joined" 2 ["_law_told", "_law_fact_here"] f_law_joined :=
  kn_mk (st := s_law_joined) (T.says.def_ 4 rfl) sc_law_joined T.glo_law_joined (fun _ _ _ _ _ _ us hl => match us, hl with | [_, _], _ => rfl) fun cdv A outer s H E hr hx => by
  have hp := owns_cx (P := P) (w := w) (K := K) (mg := mg) (base := base) (N := N_law_joined) (qual := "_law_joined") (scope := defScope s_law_joined) (f := (He.ga K "_law_joined")) (cdv := cdv) (A := A) (outer := outer) (s := s) (H := H) (E := E)
  have tk := takes_cx (P := P) (w := w) (K := K) (mg := mg) (base := base) (N := N_law_joined) (qual := "_law_joined") (scope := defScope s_law_joined) (f := (He.ga K "_law_joined")) (cdv := cdv) (A := A) (outer := outer) (s := s) (H := H) (E := E)
  exact (dss_cons (ds_if (dt_not (dt_val (de_kn (kn_law_live_here T) (hr.mono (by decide)) (by rfl) hx (da_cons (de_var 0 (pv 0)) (da_cons (de_ix (de_var 1 (pv 1)) de_int (fun _ _ => rfl)) (da_cons (de_ix (de_var 1 (pv 1)) de_int (fun _ _ => rfl)) da_nil))) (aCons_len (aCons_len (aCons_len aNil_len)))))) (dss_one (ds_ret de_bl)) dss_nil)
    (dss_cons (ds_if (dt_cmp (op_eqA hr.units) od_eq (de_ix (de_var 1 (pv 1)) de_int (fun _ _ => rfl)) de_str (nomark _)) (dss_one (ds_ret (de_and (de_cmp (op_inK (room2 hr)) od_inK (de_ix (de_var 1 (pv 1)) de_int (fun _ _ => rfl)) (de_var 0 (pv 0)) (by first | rfl | with_unfolding_all rfl)) (de_one (de_kn (kn_law_shows T) (hr.mono (by decide)) (by rfl) hx (da_cons (de_getK (room2 hr) (de_var 0 (pv 0)) (de_ix (de_var 1 (pv 1)) de_int (fun _ _ => rfl)) (fun _ _ => rfl)) (da_cons (de_ix (de_var 1 (pv 1)) de_int (fun _ _ => rfl)) (da_cons (de_ix (de_var 1 (pv 1)) de_int (fun _ _ => rfl)) (da_cons (de_tup (da_cons de_int (da_cons de_int da_nil))) da_nil)))) (aCons_len (aCons_len (aCons_len (aCons_len aNil_len))))))))) dss_nil)
    (dss_cons (ds_if (DW.dt (dw_or (dt_cmp (op_notInK (room2 hr)) od_notInK (de_ix (de_var 1 (pv 1)) de_int (fun _ _ => rfl)) (de_var 0 (pv 0)) (by first | rfl | with_unfolding_all rfl)) (dw_or1 (dt_cmp (op_notInK (room2 hr)) od_notInK (de_ix (de_var 1 (pv 1)) de_int (fun _ _ => rfl)) (de_var 0 (pv 0)) (by first | rfl | with_unfolding_all rfl))))) (dss_one (ds_ret de_bl)) dss_nil)
    (dss_cons (ds_if (dt_not (dt_val (de_kn (kn_law_shows T) (hr.mono (by decide)) (by rfl) hx (da_cons (de_getK (room2 hr) (de_var 0 (pv 0)) (de_ix (de_var 1 (pv 1)) de_int (fun _ _ => rfl)) (fun _ _ => rfl)) (da_cons (de_ix (de_var 1 (pv 1)) de_int (fun _ _ => rfl)) (da_cons (de_ix (de_var 1 (pv 1)) de_int (fun _ _ => rfl)) (da_cons (de_tup (da_cons de_int (da_cons de_int da_nil))) da_nil)))) (aCons_len (aCons_len (aCons_len (aCons_len aNil_len))))))) (dss_one (ds_ret de_bl)) dss_nil)
    (dss_one (ds_ret (de_kn (kn_law_shows T) (hr.mono (by decide)) (by rfl) hx (da_cons (de_getK (room2 hr) (de_var 0 (pv 0)) (de_ix (de_var 1 (pv 1)) de_int (fun _ _ => rfl)) (fun _ _ => rfl)) (da_cons (de_ix (de_var 1 (pv 1)) de_int (fun _ _ => rfl)) (da_cons (de_ix (de_var 1 (pv 1)) de_int (fun _ _ => rfl)) (da_cons (de_tup (da_cons de_int (da_cons de_int da_nil))) da_nil)))) (aCons_len (aCons_len (aCons_len (aCons_len aNil_len)))))))))))
theorem kn_law_fact (T : Tx w K mg) : Knows P w K mg base "_law_fact" 3 ["_law_told", "_law_said", "_law_fact_here", "_law_most"] f_law_fact :=
  kn_mk (st := s_law_fact) (T.says.def_ 5 rfl) sc_law_fact T.glo_law_fact (fun _ _ _ _ _ _ us hl => match us, hl with | [_, _, _, _], _ => rfl) fun cdv A outer s H E hr hx => by
  have hp := owns_cx (P := P) (w := w) (K := K) (mg := mg) (base := base) (N := N_law_fact) (qual := "_law_fact") (scope := defScope s_law_fact) (f := (He.ga K "_law_fact")) (cdv := cdv) (A := A) (outer := outer) (s := s) (H := H) (E := E)
  have tk := takes_cx (P := P) (w := w) (K := K) (mg := mg) (base := base) (N := N_law_fact) (qual := "_law_fact") (scope := defScope s_law_fact) (f := (He.ga K "_law_fact")) (cdv := cdv) (A := A) (outer := outer) (s := s) (H := H) (E := E)
  exact (dss_cons (ds_if (DW.dt (dw_or (dt_not (dt_val (de_isi (by rfl) (T.free_isinstance) (by rfl) (T.free_tuple) (by decide +kernel) (de_var 2 (pv 2))))) (dw_or1 (dt_cmp (op_cmpA (op := .Lt) rfl hr.units) od_cmp (de_callB call_lenA cd_len (by rfl) (T.free_len) (by decide +kernel) (da_cons (de_var 2 (pv 2)) da_nil)) de_int (nomark _))))) (dss_one (ds_ret de_non)) dss_nil)
    (dss_cons (ds_if (DW.dt (dw_and (dt_cmp (op_eqA hr.units) od_eq (de_ix (de_var 2 (pv 2)) de_int (fun _ _ => rfl)) de_str (nomark _)) (dw_and (dt_cmp (op_eqA hr.units) od_eq (de_callB call_lenA cd_len (by rfl) (T.free_len) (by decide +kernel) (da_cons (de_var 2 (pv 2)) da_nil)) de_int (nomark _)) (dw_and (dt_cmp (op_inK (room2 hr)) od_inK (de_ix (de_var 2 (pv 2)) de_int (fun _ _ => rfl)) (de_var 0 (pv 0)) (by first | rfl | with_unfolding_all rfl)) (dw_and1 (dt_val (de_kn (kn_law_marks_v3 T) (hr.mono (by decide)) (by rfl) hx (da_cons (de_var 2 (pv 2)) (da_cons de_int (da_cons de_int (da_cons (de_var 3 (pv 3)) da_nil)))) (aCons_len (aCons_len (aCons_len (aCons_len aNil_len))))))))))) (dss_cons (ds_if (dt_val (de_callB (cr_any rfl) cd_any (by rfl) (T.free_any) (by decide +kernel) (da_cons (de_lc (own := [("_law_k", 4)]) (sl := [4]) rfl sc_law_fact.nd (di_rng2 (by rfl) (T.free_range) (da_cons de_int (da_cons de_int da_nil))) (blkOk_by (N := N_law_fact) (sc := defScope s_law_fact) (by decide +kernel)) (by decide) (fun _ _ _ _ _ => (dg_name (i := 4) sc_law_fact.nd rfl (by first | exact Or.inl rfl | exact Or.inr rfl))) (fun _ _ _ _ _ => dts_nil) (fun _ _ _ _ _ => (de_cmp (op_neA hr.units) od_ne (de_ix (de_getK (room2 hr) (de_var 0 (pv 0)) (de_ix (de_var 2 (pv 2)) de_int (fun _ _ => rfl)) (fun _ _ => rfl)) (de_ix (de_var 2 (pv 2)) (de_var 4 (pv 4)) (fun _ _ => rfl)) (fun _ _ => rfl)) de_int (nomark _)))) da_nil))) (dss_one (ds_ret de_non)) dss_nil)
    (dss_one (ds_ret (de_tup (da_cons (de_lst (da_cons (de_tup (da_cons (de_ix (de_var 2 (pv 2)) de_int (fun _ _ => rfl)) (da_cons (de_ix (de_var 2 (pv 2)) de_int (fun _ _ => rfl)) da_nil))) (da_cons (de_tup (da_cons (de_ix (de_var 2 (pv 2)) de_int (fun _ _ => rfl)) (da_cons (de_ix (de_var 2 (pv 2)) de_int (fun _ _ => rfl)) da_nil))) (da_cons (de_tup (da_cons (de_ix (de_var 2 (pv 2)) de_int (fun _ _ => rfl)) (da_cons (de_ix (de_var 2 (pv 2)) de_int (fun _ _ => rfl)) da_nil))) da_nil)))) (da_cons de_int da_nil)))))) dss_nil)
    (dss_cons (ds_if (DW.dt (dw_and (dt_cmp (op_eqA hr.units) od_eq (de_ix (de_var 2 (pv 2)) de_int (fun _ _ => rfl)) de_str (nomark _)) (dw_and1 (dt_cmp (op_inA (room65 hr)) od_in (de_sl (de_var 2 (pv 2)) (do_some de_int) do_none) (de_var 1 (pv 1)) (by first | rfl | with_unfolding_all rfl))))) (dss_one (ds_ret (de_tup (da_cons (de_lst (da_cons (de_tup (da_cons (de_ix (de_var 2 (pv 2)) de_int (fun _ _ => rfl)) (da_cons (de_ix (de_var 2 (pv 2)) de_int (fun _ _ => rfl)) da_nil))) da_nil)) (da_cons (de_if (dt_cmp (op_eqA hr.units) od_eq (de_ix (de_var 2 (pv 2)) de_int (fun _ _ => rfl)) de_str (nomark _)) de_int de_int) da_nil))))) dss_nil)
    (dss_cons (ds_if (DW.dt (dw_and (dt_cmp (op_eqA hr.units) od_eq (de_ix (de_var 2 (pv 2)) de_int (fun _ _ => rfl)) de_str (nomark _)) (dw_and (dt_cmp (op_eqA hr.units) od_eq (de_callB call_lenA cd_len (by rfl) (T.free_len) (by decide +kernel) (da_cons (de_var 2 (pv 2)) da_nil)) de_int (nomark _)) (dw_and1 (dt_val (de_kn (kn_law_marks_v3 T) (hr.mono (by decide)) (by rfl) hx (da_cons (de_var 2 (pv 2)) (da_cons de_int (da_cons de_int (da_cons (de_var 3 (pv 3)) da_nil)))) (aCons_len (aCons_len (aCons_len (aCons_len aNil_len)))))))))) (dss_one (ds_ret (de_if (dt_val (de_kn (kn_law_joined T) (hr.mono (by decide)) (by rfl) hx (da_cons (de_var 0 (pv 0)) (da_cons (de_var 2 (pv 2)) da_nil)) (aCons_len (aCons_len aNil_len)))) (de_tup (da_cons (de_lst (da_cons (de_tup (da_cons (de_ix (de_var 2 (pv 2)) de_int (fun _ _ => rfl)) (da_cons (de_ix (de_var 2 (pv 2)) de_int (fun _ _ => rfl)) da_nil))) da_nil)) (da_cons de_int da_nil))) de_non))) dss_nil)
    (dss_cons (ds_if (DW.dt (dw_and (dt_cmp (op_eqA hr.units) od_eq (de_ix (de_var 2 (pv 2)) de_int (fun _ _ => rfl)) de_str (nomark _)) (dw_and (dt_cmp (op_eqA hr.units) od_eq (de_callB call_lenA cd_len (by rfl) (T.free_len) (by decide +kernel) (da_cons (de_var 2 (pv 2)) da_nil)) de_int (nomark _)) (dw_and1 (dt_val (de_kn (kn_law_marks_v3 T) (hr.mono (by decide)) (by rfl) hx (da_cons (de_var 2 (pv 2)) (da_cons de_int (da_cons de_int (da_cons (de_var 3 (pv 3)) da_nil)))) (aCons_len (aCons_len (aCons_len (aCons_len aNil_len)))))))))) (dss_one (ds_ret (de_if (dt_val (de_kn (kn_law_joined T) (hr.mono (by decide)) (by rfl) hx (da_cons (de_var 0 (pv 0)) (da_cons (de_var 2 (pv 2)) da_nil)) (aCons_len (aCons_len aNil_len)))) (de_tup (da_cons (de_lst (da_cons (de_tup (da_cons (de_ix (de_var 2 (pv 2)) de_int (fun _ _ => rfl)) (da_cons (de_ix (de_var 2 (pv 2)) de_int (fun _ _ => rfl)) da_nil))) da_nil)) (da_cons de_int da_nil))) de_non))) dss_nil)
    (dss_one (ds_ret de_non)))))))
theorem kn_law_odd (T : Tx w K mg) : Knows P w K mg base "_law_odd" 4 ["_law_told", "_law_said", "_law_bar", "_law_most"] f_law_odd :=
  kn_mk (st := s_law_odd) (T.says.def_ 6 rfl) sc_law_odd T.glo_law_odd (fun _ _ _ _ _ _ us hl => match us, hl with | [_, _, _, _], _ => rfl) fun cdv A outer s H E hr hx => by
  have hp := owns_cx (P := P) (w := w) (K := K) (mg := mg) (base := base) (N := N_law_odd) (qual := "_law_odd") (scope := defScope s_law_odd) (f := (He.ga K "_law_odd")) (cdv := cdv) (A := A) (outer := outer) (s := s) (H := H) (E := E)
  have tk := takes_cx (P := P) (w := w) (K := K) (mg := mg) (base := base) (N := N_law_odd) (qual := "_law_odd") (scope := defScope s_law_odd) (f := (He.ga K "_law_odd")) (cdv := cdv) (A := A) (outer := outer) (s := s) (H := H) (E := E)
  exact (dss_cons (ds_if (DW.dt (dw_or (dt_cmp (op_neA hr.units) od_ne (de_callB call_lenA cd_len (by rfl) (T.free_len) (by decide +kernel) (da_cons (de_var 2 (pv 2)) da_nil)) de_int (nomark _)) (dw_or1 (dt_not (dt_val (de_isi (by rfl) (T.free_isinstance) (by rfl) (T.free_tuple) (by decide +kernel) (de_ix (de_var 2 (pv 2)) de_int (fun _ _ => rfl)))))))) (dss_one (ds_ret de_bl)) dss_nil)
    (dss_cons (ds_set (i := 4) sc_law_odd.nd rfl (by first | exact Or.inl rfl | exact Or.inr rfl) (de_lst da_nil))
    (dss_cons (ds_set (i := 5) sc_law_odd.nd rfl (by first | exact Or.inl rfl | exact Or.inr rfl) de_int)
    (dss_cons (ds_for hp rfl (di_any (de_ix (de_var 2 (pv 2)) de_int (fun _ _ => rfl))) (dg_name (i := 6) sc_law_odd.nd rfl (by first | exact Or.inl rfl | exact Or.inr rfl)) (dss_cons (ds_set (i := 7) sc_law_odd.nd rfl (by first | exact Or.inl rfl | exact Or.inr rfl) (de_kn (kn_law_fact T) (hr.mono (by decide)) (by rfl) hx (da_cons (de_var 0 (pv 0)) (da_cons (de_var 1 (pv 1)) (da_cons (de_var 6 (pv 6)) (da_cons (de_var 3 (pv 3)) da_nil)))) (aCons_len (aCons_len (aCons_len (aCons_len aNil_len))))))
    (dss_cons (ds_if (dt_cmp op_isN od_isN (de_var 7 (pv 7)) de_non (nomark _)) (dss_one (ds_ret de_bl)) dss_nil)
    (dss_cons (ds_aug (i := 5) sc_law_odd.nd rfl (by first | exact Or.inl rfl | exact Or.inr rfl) (de_ix (de_var 7 (pv 7)) de_int (fun _ _ => rfl)))
    (dss_one (ds_for hp rfl (di_any (de_ix (de_var 7 (pv 7)) de_int (fun _ _ => rfl))) (dg_name (i := 8) sc_law_odd.nd rfl (by first | exact Or.inl rfl | exact Or.inr rfl)) (dss_one (ds_if (dt_pub (dt_cmp (op_inA (room65 hr)) od_in (de_var 8 (pv 8)) (de_var 4 (pv 4)) (by first | rfl | with_unfolding_all rfl))) (dss_one (ds_mut (dm_mut PySem.F.slot_list_remove PySem.F.type_list_remove (mt_removeD (have h65 := room65 hr; h65)) mut_remove (pv 4) (da_cons (de_var 8 (pv 8)) da_nil) (fun t ht => pe_bm PySem.F.plainAttrs_list PySem.F.slot_list_remove PySem.F.type_list_remove (mt_removeD (have h65 := room65 hr; h65)) (pv 4) ht)))) (dss_one (ds_mut (dm_mut PySem.F.slot_list_append PySem.F.type_list_append mt_append mut_append (pv 4) (da_cons (de_var 8 (pv 8)) da_nil) (fun t ht => pe_bm PySem.F.plainAttrs_list PySem.F.slot_list_append PySem.F.type_list_append mt_append (pv 4) ht)))))) bN_ne))))) bN_ne)
    (dss_one (ds_fix [4] (ds_ret (de_and (de_cmp (op_eqA hr.units) od_eq (de_var 4 (pv 4)) (de_lst da_nil) (nomark _)) (de_one (de_cmp (op_eqA hr.units) od_eq (de_op op_mod od_mod (de_var 5 (pv 5)) de_int) de_int (nomark _)))))))))))
theorem kn_law_clash (T : Tx w K mg) : Knows P w K mg base "_law_clash" 3 ["_law_told", "_law_bar", "_law_most"] f_law_clash :=
  kn_mk (st := s_law_clash) (T.says.def_ 7 rfl) sc_law_clash T.glo_law_clash (fun _ _ _ _ _ _ us hl => match us, hl with | [_, _, _], _ => rfl) fun cdv A outer s H E hr hx => by
  have hp := owns_cx (P := P) (w := w) (K := K) (mg := mg) (base := base) (N := N_law_clash) (qual := "_law_clash") (scope := defScope s_law_clash) (f := (He.ga K "_law_clash")) (cdv := cdv) (A := A) (outer := outer) (s := s) (H := H) (E := E)
  have tk := takes_cx (P := P) (w := w) (K := K) (mg := mg) (base := base) (N := N_law_clash) (qual := "_law_clash") (scope := defScope s_law_clash) (f := (He.ga K "_law_clash")) (cdv := cdv) (A := A) (outer := outer) (s := s) (H := H) (E := E)
  exact (dss_cons (ds_if (DW.dt (dw_or (dt_cmp (op_neA hr.units) od_ne (de_callB call_lenA cd_len (by rfl) (T.free_len) (by decide +kernel) (da_cons (de_var 1 (pv 1)) da_nil)) de_int (nomark _)) (dw_or1 (dt_not (dt_val (de_kn (kn_law_marks_v3 T) (hr.mono (by decide)) (by rfl) hx (da_cons (de_var 1 (pv 1)) (da_cons de_int (da_cons de_int (da_cons (de_var 2 (pv 2)) da_nil)))) (aCons_len (aCons_len (aCons_len (aCons_len aNil_len)))))))))) (dss_one (ds_ret de_bl)) dss_nil)
    (dss_cons (ds_for hp rfl (di_rng1 (by rfl) (T.free_range) (da_cons de_int da_nil)) (dg_name (i := 3) sc_law_clash.nd rfl (by first | exact Or.inl rfl | exact Or.inr rfl)) (dss_cons (ds_if (dt_cmp (op_notInK (room2 hr)) od_notInK (de_ix (de_var 1 (pv 1)) (de_op op_addA od_add de_int (de_var 3 (pv 3))) (fun _ _ => rfl)) (de_var 0 (pv 0)) (by first | rfl | with_unfolding_all rfl)) (dss_one (ds_ret de_bl)) dss_nil)
    (dss_one (ds_if (dt_not (dt_val (de_kn (kn_law_shows T) (hr.mono (by decide)) (by rfl) hx (da_cons (de_getK (room2 hr) (de_var 0 (pv 0)) (de_ix (de_var 1 (pv 1)) (de_op op_addA od_add de_int (de_var 3 (pv 3))) (fun _ _ => rfl)) (fun _ _ => rfl)) (da_cons (de_ix (de_var 1 (pv 1)) de_int (fun _ _ => rfl)) (da_cons (de_ix (de_var 1 (pv 1)) de_int (fun _ _ => rfl)) (da_cons (de_ix (de_lst (da_cons (de_tup (da_cons de_int (da_cons de_int da_nil))) (da_cons (de_tup (da_cons de_int (da_cons de_int da_nil))) (da_cons (de_tup (da_cons de_int (da_cons de_int da_nil))) da_nil)))) (de_var 3 (pv 3)) (fun _ _ => rfl)) da_nil)))) (aCons_len (aCons_len (aCons_len (aCons_len aNil_len))))))) (dss_one (ds_ret de_bl)) dss_nil))) bN_ne)
    (dss_one (ds_ret de_bl))))
theorem knM_Sums_lasts (T : Tx w K mg) : KnowsM P w K mg base "Sums" "lasts" 1 ["self"] f_Sums_lasts :=
  ⟨T.cls_Sums, T.meth_Sums_lasts, fn_mk (st := s_Sums_lasts) (T.says.def_ 8 rfl) sc_Sums_lasts (fun _ _ _ _ _ _ us hl => match us, hl with | [_], _ => rfl) fun cdv A outer s H E hr hx => by
  have hp := owns_cx (P := P) (w := w) (K := K) (mg := mg) (base := base) (N := N_Sums_lasts) (qual := "Sums.lasts") (scope := defScope s_Sums_lasts) (f := (He.ma K (He.ga K "Sums") "lasts")) (cdv := cdv) (A := A) (outer := outer) (s := s) (H := H) (E := E)
  have tk := takes_cx (P := P) (w := w) (K := K) (mg := mg) (base := base) (N := N_Sums_lasts) (qual := "Sums.lasts") (scope := defScope s_Sums_lasts) (f := (He.ma K (He.ga K "Sums") "lasts")) (cdv := cdv) (A := A) (outer := outer) (s := s) (H := H) (E := E)
  exact (dss_one (ds_ret (de_lc (own := [("row", 1)]) (sl := [1]) rfl sc_Sums_lasts.nd (di_any (de_fld T.cls_Sums T.noat_Sums_kept (de_var 0 (pv 0)))) (blkOk_by (N := N_Sums_lasts) (sc := defScope s_Sums_lasts) (by decide +kernel)) (by decide) (fun _ _ _ _ _ => (dg_name (i := 1) sc_Sums_lasts.nd rfl (by first | exact Or.inl rfl | exact Or.inr rfl))) (fun _ _ _ _ _ => dts_nil) (fun _ _ _ _ _ => (de_ix (de_ix (de_var 1 (pv 1)) de_int (fun _ _ => rfl)) (de_un un_neg ud_neg de_int) (fun _ _ => rfl))))))⟩
theorem knM_Joints_check_open (T : Tx w K mg) : KnowsM P w K mg base "Joints" "check_open" 1 ["self"] f_Joints_check_open :=
  ⟨T.cls_Joints, T.meth_Joints_check_open, fn_mk (st := s_Joints_check_open) (T.says.def_ 9 rfl) sc_Joints_check_open (fun _ _ _ _ _ _ us hl => match us, hl with | [_], _ => rfl) fun cdv A outer s H E hr hx => by
  have hp := owns_cx (P := P) (w := w) (K := K) (mg := mg) (base := base) (N := N_Joints_check_open) (qual := "Joints.check_open") (scope := defScope s_Joints_check_open) (f := (He.ma K (He.ga K "Joints") "check_open")) (cdv := cdv) (A := A) (outer := outer) (s := s) (H := H) (E := E)
  have tk := takes_cx (P := P) (w := w) (K := K) (mg := mg) (base := base) (N := N_Joints_check_open) (qual := "Joints.check_open") (scope := defScope s_Joints_check_open) (f := (He.ma K (He.ga K "Joints") "check_open")) (cdv := cdv) (A := A) (outer := outer) (s := s) (H := H) (E := E)
  exact (dss_one (ds_if (dt_cmp op_notN od_notN (de_fld T.cls_Joints T.noat_Joints_paper (de_var 0 (pv 0))) de_non (nomark _)) (dss_one (ds_raise rfl tk T.exc_Barred (by rfl))) dss_nil))⟩
theorem knM_Joints_loose (T : Tx w K mg) : KnowsM P w K mg base "Joints" "loose" 2 ["self"] f_Joints_loose :=
  ⟨T.cls_Joints, T.meth_Joints_loose, fn_mk (st := s_Joints_loose) (T.says.def_ 10 rfl) sc_Joints_loose (fun _ _ _ _ _ _ us hl => match us, hl with | [_], _ => rfl) fun cdv A outer s H E hr hx => by
  have hp := owns_cx (P := P) (w := w) (K := K) (mg := mg) (base := base) (N := N_Joints_loose) (qual := "Joints.loose") (scope := defScope s_Joints_loose) (f := (He.ma K (He.ga K "Joints") "loose")) (cdv := cdv) (A := A) (outer := outer) (s := s) (H := H) (E := E)
  have tk := takes_cx (P := P) (w := w) (K := K) (mg := mg) (base := base) (N := N_Joints_loose) (qual := "Joints.loose") (scope := defScope s_Joints_loose) (f := (He.ma K (He.ga K "Joints") "loose")) (cdv := cdv) (A := A) (outer := outer) (s := s) (H := H) (E := E)
  exact (dss_cons (ds_expr (de_meth0 (knM_Joints_check_open T) (hr.mono (by decide)) hx (de_var 0 (pv 0)) rfl (fun po hm F b c => pe_meth0 po c hm F (hr.mono (by decide)) b .nil hx)))
    (dss_cons (ds_set (i := 1) sc_Joints_loose.nd rfl (by first | exact Or.inl rfl | exact Or.inr rfl) (de_meth0 (knM_Sums_lasts T) (hr.mono (by decide)) hx (de_fld T.cls_Joints T.noat_Joints_sums (de_var 0 (pv 0))) rfl (fun po hm F b c => pe_meth0 po c hm F (hr.mono (by decide)) b .nil hx)))
    (dss_one (ds_fix [1] (ds_ret (de_lc (own := [("pair", 2)]) (sl := [2]) rfl sc_Joints_loose.nd (di_any (de_fld T.cls_Joints T.noat_Joints_pairs (de_var 0 (pv 0)))) (blkOk_by (N := N_Joints_loose) (sc := defScope s_Joints_loose) (by decide +kernel)) (by decide) (fun _ _ _ _ _ => (dg_name (i := 2) sc_Joints_loose.nd rfl (by first | exact Or.inl rfl | exact Or.inr rfl))) (fun _ _ _ _ _ => (dts_one (dt_cmp (op_notInA (room65 hr)) od_notIn (de_var 2 (pv 2)) (de_var 1 (pv 1)) (by first | rfl | with_unfolding_all rfl)))) (fun _ _ _ _ _ => (de_var 2 (pv 2)))))))))⟩
theorem knM_Joints_many_ways (T : Tx w K mg) : KnowsM P w K mg base "Joints" "many_ways" 3 ["self"] f_Joints_many_ways :=
  ⟨T.cls_Joints, T.meth_Joints_many_ways, fn_mk (st := s_Joints_many_ways) (T.says.def_ 11 rfl) sc_Joints_many_ways (fun _ _ _ _ _ _ us hl => match us, hl with | [_], _ => rfl) fun cdv A outer s H E hr hx => by
  have hp := owns_cx (P := P) (w := w) (K := K) (mg := mg) (base := base) (N := N_Joints_many_ways) (qual := "Joints.many_ways") (scope := defScope s_Joints_many_ways) (f := (He.ma K (He.ga K "Joints") "many_ways")) (cdv := cdv) (A := A) (outer := outer) (s := s) (H := H) (E := E)
  have tk := takes_cx (P := P) (w := w) (K := K) (mg := mg) (base := base) (N := N_Joints_many_ways) (qual := "Joints.many_ways") (scope := defScope s_Joints_many_ways) (f := (He.ma K (He.ga K "Joints") "many_ways")) (cdv := cdv) (A := A) (outer := outer) (s := s) (H := H) (E := E)
  exact (dss_cons (ds_if (dt_cmp op_notN od_notN (de_fld T.cls_Joints T.noat_Joints_paper (de_var 0 (pv 0))) de_non (nomark _)) (dss_one (ds_ret de_int)) dss_nil)
    (dss_cons (ds_set (i := 1) sc_Joints_many_ways.nd rfl (by first | exact Or.inl rfl | exact Or.inr rfl) de_int)
    (dss_cons (ds_for hp rfl (di_any (de_meth0 (knM_Joints_loose T) (hr.mono (by decide)) hx (de_var 0 (pv 0)) rfl (fun po hm F b c => pe_meth0 po c hm F (hr.mono (by decide)) b .nil hx))) (dg_name (i := 2) sc_Joints_many_ways.nd rfl (by first | exact Or.inl rfl | exact Or.inr rfl)) (dss_one (ds_set (i := 1) sc_Joints_many_ways.nd rfl (by first | exact Or.inl rfl | exact Or.inr rfl) (de_op op_mulA od_mul de_int (de_var 1 (pv 1))))) bN_ne)
    (dss_one (ds_ret (de_var 1 (pv 1)))))))⟩
theorem kn_law_against (T : Tx w K mg) : Knows P w K mg base "_law_against" 1 ["_law_row_here", "_law_founder_here"] f_law_against :=
  kn_mk (st := s_law_against) (T.says.def_ 12 rfl) sc_law_against T.glo_law_against (fun _ _ _ _ _ _ us hl => match us, hl with | [_, _], _ => rfl) fun cdv A outer s H E hr hx => by
  have hp := owns_cx (P := P) (w := w) (K := K) (mg := mg) (base := base) (N := N_law_against) (qual := "_law_against") (scope := defScope s_law_against) (f := (He.ga K "_law_against")) (cdv := cdv) (A := A) (outer := outer) (s := s) (H := H) (E := E)
  have tk := takes_cx (P := P) (w := w) (K := K) (mg := mg) (base := base) (N := N_law_against) (qual := "_law_against") (scope := defScope s_law_against) (f := (He.ga K "_law_against")) (cdv := cdv) (A := A) (outer := outer) (s := s) (H := H) (E := E)
  exact (dss_cons (ds_set (i := 2) sc_law_against.nd rfl (by first | exact Or.inl rfl | exact Or.inr rfl) (de_lst da_nil))
    (dss_cons (ds_for hp rfl (di_rng1 (by rfl) (T.free_range) (da_cons (de_callB call_lenA cd_len (by rfl) (T.free_len) (by decide +kernel) (da_cons (de_var 1 (pv 1)) da_nil)) da_nil)) (dg_name (i := 3) sc_law_against.nd rfl (by first | exact Or.inl rfl | exact Or.inr rfl)) (dss_one (ds_if (dt_cmp (op_eqA hr.units) od_eq (de_ix (de_var 0 (pv 0)) (de_var 3 (pv 3)) (fun _ _ => rfl)) de_int (nomark _)) (dss_one (ds_mut (dm_mut PySem.F.slot_list_append PySem.F.type_list_append mt_append mut_append (pv 2) (da_cons de_int da_nil) (fun t ht => pe_bm PySem.F.plainAttrs_list PySem.F.slot_list_append PySem.F.type_list_append mt_append (pv 2) ht)))) (dss_one (ds_mut (dm_mut PySem.F.slot_list_append PySem.F.type_list_append mt_append mut_append (pv 2) (da_cons (de_if (dt_cmp (op_eqA hr.units) od_eq (de_ix (de_var 0 (pv 0)) (de_var 3 (pv 3)) (fun _ _ => rfl)) (de_ix (de_var 1 (pv 1)) (de_var 3 (pv 3)) (fun _ _ => rfl)) (nomark _)) de_int de_int) da_nil) (fun t ht => pe_bm PySem.F.plainAttrs_list PySem.F.slot_list_append PySem.F.type_list_append mt_append (pv 2) ht)))))) bN_ne)
    (dss_one (ds_fix [2] (ds_ret (de_callTy call_tuple_of cd_tuple (by rfl) (T.free_tuple) (by decide +kernel) (da_cons (de_var 2 (pv 2)) da_nil)))))))
theorem knM_Joints_bar_of (T : Tx w K mg) : KnowsM P w K mg base "Joints" "bar_of" 1 ["self"] f_Joints_bar_of :=
  ⟨T.cls_Joints, T.meth_Joints_bar_of, fn_mk (st := s_Joints_bar_of) (T.says.def_ 13 rfl) sc_Joints_bar_of (fun _ _ _ _ _ _ us hl => match us, hl with | [_], _ => rfl) fun cdv A outer s H E hr hx => by
  have hp := owns_cx (P := P) (w := w) (K := K) (mg := mg) (base := base) (N := N_Joints_bar_of) (qual := "Joints.bar_of") (scope := defScope s_Joints_bar_of) (f := (He.ma K (He.ga K "Joints") "bar_of")) (cdv := cdv) (A := A) (outer := outer) (s := s) (H := H) (E := E)
  have tk := takes_cx (P := P) (w := w) (K := K) (mg := mg) (base := base) (N := N_Joints_bar_of) (qual := "Joints.bar_of") (scope := defScope s_Joints_bar_of) (f := (He.ma K (He.ga K "Joints") "bar_of")) (cdv := cdv) (A := A) (outer := outer) (s := s) (H := H) (E := E)
  exact (dss_one (ds_ret (de_fld T.cls_Joints T.noat_Joints_paper (de_var 0 (pv 0)))))⟩
theorem kn_unlike (T : Tx w K mg) : Knows P w K mg base "unlike" 1 ["one", "other"] f_unlike :=
  kn_mk (st := s_unlike) (T.says.def_ 14 rfl) sc_unlike T.glo_unlike (fun _ _ _ _ _ _ us hl => match us, hl with | [_, _], _ => rfl) fun cdv A outer s H E hr hx => by
  have hp := owns_cx (P := P) (w := w) (K := K) (mg := mg) (base := base) (N := N_unlike) (qual := "unlike") (scope := defScope s_unlike) (f := (He.ga K "unlike")) (cdv := cdv) (A := A) (outer := outer) (s := s) (H := H) (E := E)
  have tk := takes_cx (P := P) (w := w) (K := K) (mg := mg) (base := base) (N := N_unlike) (qual := "unlike") (scope := defScope s_unlike) (f := (He.ga K "unlike")) (cdv := cdv) (A := A) (outer := outer) (s := s) (H := H) (E := E)
  exact (dss_cons (by first | exact ds_set (i := 2) sc_unlike.nd rfl (by first | exact Or.inl rfl | exact Or.inr rfl) (de_lc (own := [("thing", 3)]) (sl := [3]) rfl sc_unlike.nd (di_any (de_var 0 (pv 0))) (blkOk_by (N := N_unlike) (sc := defScope s_unlike) (by decide +kernel)) (by decide) (fun _ _ _ _ _ => (dg_name (i := 3) sc_unlike.nd rfl (by first | exact Or.inl rfl | exact Or.inr rfl))) (fun _ _ _ _ _ => (dts_one (dt_cmp (op_notInA (room65 hr)) od_notIn (de_var 3 (pv 3)) (de_var 1 (pv 1)) (by first | rfl | with_unfolding_all rfl)))) (fun _ _ _ _ _ => (de_var 3 (pv 3)))) | exact ds_setLc (i := 2) (own := [("thing", 3)]) (sl := [3]) rfl sc_unlike.nd rfl rfl (sw_true rfl rfl rfl (by decide +kernel)) (di_any (de_var 0 (pv 0))) (blkOk_by (N := N_unlike) (sc := defScope s_unlike) (by decide +kernel)) (by decide) (fun _ _ _ _ _ => (dg_name (i := 3) sc_unlike.nd rfl (by first | exact Or.inl rfl | exact Or.inr rfl))) (fun _ _ _ _ _ => (dts_one (dt_cmp (op_notInA (room65 hr)) od_notIn (de_var 3 (pv 3)) (de_var 1 (pv 1)) (by first | rfl | with_unfolding_all rfl)))) (fun _ _ _ _ _ => (de_var 3 (pv 3))))
    (dss_one (ds_fix [2] (ds_ret (de_callB (cr_sortD (room64 hr)) cd_sortD (by rfl) (T.free_sorted) (by decide +kernel) (da_cons (de_op op_addA od_add (de_var 2 (pv 2)) (de_lc (own := [("thing", 3)]) (sl := [3]) rfl sc_unlike.nd (di_any (de_var 1 (pv 1))) (blkOk_by (N := N_unlike) (sc := defScope s_unlike) (by decide +kernel)) (by decide) (fun _ _ _ _ _ => (dg_name (i := 3) sc_unlike.nd rfl (by first | exact Or.inl rfl | exact Or.inr rfl))) (fun _ _ _ _ _ => (dts_one (dt_cmp (op_notInA (room65 hr)) od_notIn (de_var 3 (pv 3)) (de_var 0 (pv 0)) (by first | rfl | with_unfolding_all rfl)))) (fun _ _ _ _ _ => (de_var 3 (pv 3))))) da_nil))))))
theorem kn_summed (T : Tx w K mg) : Knows P w K mg base "summed" 2 ["one", "other"] f_summed :=
  kn_mk (st := s_summed) (T.says.def_ 15 rfl) sc_summed T.glo_summed (fun _ _ _ _ _ _ us hl => match us, hl with | [_, _], _ => rfl) fun cdv A outer s H E hr hx => by
  have hp := owns_cx (P := P) (w := w) (K := K) (mg := mg) (base := base) (N := N_summed) (qual := "summed") (scope := defScope s_summed) (f := (He.ga K "summed")) (cdv := cdv) (A := A) (outer := outer) (s := s) (H := H) (E := E)
  have tk := takes_cx (P := P) (w := w) (K := K) (mg := mg) (base := base) (N := N_summed) (qual := "summed") (scope := defScope s_summed) (f := (He.ga K "summed")) (cdv := cdv) (A := A) (outer := outer) (s := s) (H := H) (E := E)
  exact (dss_one (ds_ret (de_tup (da_cons (de_kn (kn_unlike T) (hr.mono (by decide)) (by rfl) hx (da_cons (de_ix (de_var 0 (pv 0)) de_int (fun _ _ => rfl)) (da_cons (de_ix (de_var 1 (pv 1)) de_int (fun _ _ => rfl)) da_nil)) (aCons_len (aCons_len aNil_len))) (da_cons (de_op op_mod od_mod (de_op op_addA od_add (de_ix (de_var 0 (pv 0)) de_int (fun _ _ => rfl)) (de_ix (de_var 1 (pv 1)) de_int (fun _ _ => rfl))) de_int) (da_cons (de_kn (kn_unlike T) (hr.mono (by decide)) (by rfl) hx (da_cons (de_ix (de_var 0 (pv 0)) de_int (fun _ _ => rfl)) (da_cons (de_ix (de_var 1 (pv 1)) de_int (fun _ _ => rfl)) da_nil)) (aCons_len (aCons_len aNil_len))) da_nil))))))
theorem knM_Sums_lessened (T : Tx w K mg) : KnowsM P w K mg base "Sums" "lessened" 3 ["self", "row"] f_Sums_lessened :=
  ⟨T.cls_Sums, T.meth_Sums_lessened, fn_mk (st := s_Sums_lessened) (T.says.def_ 16 rfl) sc_Sums_lessened (fun _ _ _ _ _ _ us hl => match us, hl with | [_, _], _ => rfl) fun cdv A outer s H E hr hx => by
  have hp := owns_cx (P := P) (w := w) (K := K) (mg := mg) (base := base) (N := N_Sums_lessened) (qual := "Sums.lessened") (scope := defScope s_Sums_lessened) (f := (He.ma K (He.ga K "Sums") "lessened")) (cdv := cdv) (A := A) (outer := outer) (s := s) (H := H) (E := E)
  have tk := takes_cx (P := P) (w := w) (K := K) (mg := mg) (base := base) (N := N_Sums_lessened) (qual := "Sums.lessened") (scope := defScope s_Sums_lessened) (f := (He.ma K (He.ga K "Sums") "lessened")) (cdv := cdv) (A := A) (outer := outer) (s := s) (H := H) (E := E)
  exact (dss_cons (ds_for hp rfl (di_any (de_fld T.cls_Sums T.noat_Sums_kept (de_var 0 (pv 0)))) (dg_name (i := 2) sc_Sums_lessened.nd rfl (by first | exact Or.inl rfl | exact Or.inr rfl)) (dss_one (ds_if (dt_cmp (op_inA (room65 hr)) od_in (de_ix (de_ix (de_var 2 (pv 2)) de_int (fun _ _ => rfl)) (de_un un_neg ud_neg de_int) (fun _ _ => rfl)) (de_ix (de_var 1 (pv 1)) de_int (fun _ _ => rfl)) (by first | rfl | with_unfolding_all rfl)) (dss_one (ds_set (i := 1) sc_Sums_lessened.nd rfl (by first | exact Or.inl rfl | exact Or.inr rfl) (de_kn (kn_summed T) (hr.mono (by decide)) (by rfl) hx (da_cons (de_var 1 (pv 1)) (da_cons (de_var 2 (pv 2)) da_nil)) (aCons_len (aCons_len aNil_len))))) dss_nil)) bN_ne)
    (dss_one (ds_ret (de_var 1 (pv 1)))))⟩
theorem knM2_Sums_take (T : Tx w K mg) : KnowsM2 P w K mg base "Sums" "take" 4 ["self", "pairs", "right", "number"] f2_Sums_take :=
  ⟨T.cls_Sums, T.meth_Sums_take, fn2_mk (st := s_Sums_take) (T.says.def_ 17 rfl) sc_Sums_take (fun _ _ _ _ _ _ us hl => match us, hl with | [_, _, _, _], _ => rfl) fun cdv A outer s H E hr tk => by
  have hp := owns_cx (P := P) (w := w) (K := K) (mg := mg) (base := base) (N := N_Sums_take) (qual := "Sums.take") (scope := defScope s_Sums_take) (f := (He.ma K (He.ga K "Sums") "take")) (cdv := cdv) (A := A) (outer := outer) (s := s) (H := H) (E := E)
  have hx := L2N.passes_call tk fun _ _ _ _ z => z
  exact (ss2_cons (s2_set (i := 4) sc_Sums_take.nd rfl (by first | exact Or.inl rfl | exact Or.inr rfl) (e2_pub false (de_meth (knM_Sums_lessened T) (hr.mono (by decide)) hx (de_var 0 (pv 0)) (da_cons (de_tup (da_cons (de_callB (cr_sortD (room64 hr)) cd_sortD (by rfl) (T.free_sorted) (by decide +kernel) (da_cons (de_var 1 (pv 1)) da_nil)) (da_cons (de_var 2 (pv 2)) (da_cons (de_lst (da_cons (de_var 3 (pv 3)) da_nil)) da_nil)))) da_nil) (fun ρ ds h => congrArg Nat.succ ((aCons_len aNil_len) ρ ds h)) (fun po pt hm F b c => pe_meth po c hm F (hr.mono (by decide)) b .nil hx pt))))
    (ss2_cons (s2_if (t2_lift (dt_cmp (op_eqA hr.units) od_eq (de_callB call_lenA cd_len (by rfl) (T.free_len) (by decide +kernel) (da_cons (de_ix (de_var 4 (pv 4)) de_int (fun _ _ => rfl)) da_nil)) de_int (nomark _))) (ss2_cons (s2_if (t2_lift (dt_cmp (op_eqA hr.units) od_eq (de_ix (de_var 4 (pv 4)) de_int (fun _ _ => rfl)) de_int (nomark _))) (ss2_one (s2_ret (e2_lift (de_ix (de_var 4 (pv 4)) de_int (fun _ _ => rfl))))) ss2_nil)
    (ss2_one (s2_ret (e2_lift de_non)))) ss2_nil)
    (ss2_cons (s2_set (i := 5) sc_Sums_take.nd rfl (by first | exact Or.inl rfl | exact Or.inr rfl) (e2_lift (de_ix (de_ix (de_var 4 (pv 4)) de_int (fun _ _ => rfl)) (de_un un_neg ud_neg de_int) (fun _ _ => rfl))))
    (ss2_cons (s2_set (i := 6) sc_Sums_take.nd rfl (by first | exact Or.inl rfl | exact Or.inr rfl) (e2_lift (de_lst da_nil)))
    (ss2_cons (s2_for hp rfl (i2_any (e2_pub false (de_fld T.cls_Sums T.noat_Sums_kept (de_var 0 (pv 0))))) (g2_name (i := 7) sc_Sums_take.nd rfl (by first | exact Or.inl rfl | exact Or.inr rfl)) (ss2_cons (s2_if (t2_lift (dt_cmp (op_inA (room65 hr)) od_in (de_var 5 (pv 5)) (de_ix (de_var 7 (pv 7)) de_int (fun _ _ => rfl)) (by first | rfl | with_unfolding_all rfl))) (ss2_one (s2_set (i := 7) sc_Sums_take.nd rfl (by first | exact Or.inl rfl | exact Or.inr rfl) (e2_lift (de_kn (kn_summed T) (hr.mono (by decide)) (by rfl) hx (da_cons (de_var 7 (pv 7)) (da_cons (de_var 4 (pv 4)) da_nil)) (aCons_len (aCons_len aNil_len)))))) ss2_nil)
    (ss2_one (s2_expr (e2_mutS mut_append (a1_cons (e1_lift (de_var 7 (pv 7))) a1_nil) (fun t ht => pe_bm PySem.F.plainAttrs_list PySem.F.slot_list_append PySem.F.type_list_append mt_append (pv 6) ht))))))
    (ss2_cons (s2_fix [6] (s2_fld T.cls_Sums T.noat_Sums_kept (pv 0) (e2_fz (e2_lift (de_op op_addA od_add (de_var 6 (pv 6)) (de_lst (da_cons (de_var 4 (pv 4)) da_nil)))))))
    (ss2_one (s2_ret (e2_lift de_non)))))))))⟩
theorem kn_sum_of (T : Tx w K mg) : Knows P w K mg base "sum_of" 1 ["fact"] f_sum_of :=
  kn_mk (st := s_sum_of) (T.says.def_ 18 rfl) sc_sum_of T.glo_sum_of (fun _ _ _ _ _ _ us hl => match us, hl with | [_], _ => rfl) fun cdv A outer s H E hr hx => by
  have hp := owns_cx (P := P) (w := w) (K := K) (mg := mg) (base := base) (N := N_sum_of) (qual := "sum_of") (scope := defScope s_sum_of) (f := (He.ga K "sum_of")) (cdv := cdv) (A := A) (outer := outer) (s := s) (H := H) (E := E)
  have tk := takes_cx (P := P) (w := w) (K := K) (mg := mg) (base := base) (N := N_sum_of) (qual := "sum_of") (scope := defScope s_sum_of) (f := (He.ga K "sum_of")) (cdv := cdv) (A := A) (outer := outer) (s := s) (H := H) (E := E)
  exact (dss_cons (ds_if (dt_cmp (op_eqA hr.units) od_eq (de_ix (de_var 0 (pv 0)) de_int (fun _ _ => rfl)) de_str (nomark _)) (dss_one (ds_ret (de_tup (da_cons (de_lst (da_cons (de_tup (da_cons (de_ix (de_var 0 (pv 0)) de_int (fun _ _ => rfl)) (da_cons (de_ix (de_var 0 (pv 0)) de_int (fun _ _ => rfl)) da_nil))) (da_cons (de_tup (da_cons (de_ix (de_var 0 (pv 0)) de_int (fun _ _ => rfl)) (da_cons (de_ix (de_var 0 (pv 0)) de_int (fun _ _ => rfl)) da_nil))) (da_cons (de_tup (da_cons (de_ix (de_var 0 (pv 0)) de_int (fun _ _ => rfl)) (da_cons (de_ix (de_var 0 (pv 0)) de_int (fun _ _ => rfl)) da_nil))) da_nil)))) (da_cons de_int da_nil))))) dss_nil)
    (dss_cons (ds_if (dt_cmp (op_eqA hr.units) od_eq (de_ix (de_var 0 (pv 0)) de_int (fun _ _ => rfl)) de_str (nomark _)) (dss_one (ds_ret (de_tup (da_cons (de_lst (da_cons (de_tup (da_cons (de_ix (de_var 0 (pv 0)) de_int (fun _ _ => rfl)) (da_cons (de_ix (de_var 0 (pv 0)) de_int (fun _ _ => rfl)) da_nil))) da_nil)) (da_cons de_int da_nil))))) dss_nil)
    (dss_cons (ds_if (dt_cmp (op_eqA hr.units) od_eq (de_ix (de_var 0 (pv 0)) de_int (fun _ _ => rfl)) de_str (nomark _)) (dss_one (ds_ret (de_tup (da_cons (de_lst (da_cons (de_tup (da_cons (de_ix (de_var 0 (pv 0)) de_int (fun _ _ => rfl)) (da_cons (de_ix (de_var 0 (pv 0)) de_int (fun _ _ => rfl)) da_nil))) da_nil)) (da_cons de_int da_nil))))) dss_nil)
    (dss_one (ds_ret (de_tup (da_cons (de_lst (da_cons (de_tup (da_cons (de_ix (de_var 0 (pv 0)) de_int (fun _ _ => rfl)) (da_cons (de_ix (de_var 0 (pv 0)) de_int (fun _ _ => rfl)) da_nil))) da_nil)) (da_cons (de_kdIx (by rfl) T.kd_RIGHTS (de_ix (de_var 0 (pv 0)) de_int (fun _ _ => rfl)) (fun _ _ => rfl)) da_nil))))))))
theorem kn_pairs_of (T : Tx w K mg) : Knows P w K mg base "pairs_of" 1 ["marks"] f_pairs_of :=
  kn_mk (st := s_pairs_of) (T.says.def_ 19 rfl) sc_pairs_of T.glo_pairs_of (fun _ _ _ _ _ _ us hl => match us, hl with | [_], _ => rfl) fun cdv A outer s H E hr hx => by
  have hp := owns_cx (P := P) (w := w) (K := K) (mg := mg) (base := base) (N := N_pairs_of) (qual := "pairs_of") (scope := defScope s_pairs_of) (f := (He.ga K "pairs_of")) (cdv := cdv) (A := A) (outer := outer) (s := s) (H := H) (E := E)
  have tk := takes_cx (P := P) (w := w) (K := K) (mg := mg) (base := base) (N := N_pairs_of) (qual := "pairs_of") (scope := defScope s_pairs_of) (f := (He.ga K "pairs_of")) (cdv := cdv) (A := A) (outer := outer) (s := s) (H := H) (E := E)
  exact (dss_cons (ds_set (i := 1) sc_pairs_of.nd rfl (by first | exact Or.inl rfl | exact Or.inr rfl) (de_lst da_nil))
    (dss_cons (ds_for hp rfl (di_enum (by rfl) (T.free_enumerate) (da_cons (de_var 0 (pv 0)) da_nil)) (dg_tup rfl (dgs_cons (dg_name (i := 2) sc_pairs_of.nd rfl (by first | exact Or.inl rfl | exact Or.inr rfl)) (dgs_cons (dg_name (i := 3) sc_pairs_of.nd rfl (by first | exact Or.inl rfl | exact Or.inr rfl)) dgs_nil))) (dss_one (ds_for hp rfl (di_any (de_sl (de_var 0 (pv 0)) (do_some (de_op op_addA od_add (de_var 2 (pv 2)) de_int)) do_none)) (dg_name (i := 4) sc_pairs_of.nd rfl (by first | exact Or.inl rfl | exact Or.inr rfl)) (dss_one (ds_mut (dm_mut PySem.F.slot_list_append PySem.F.type_list_append mt_append mut_append (pv 1) (da_cons (de_tup (da_cons (de_var 3 (pv 3)) (da_cons (de_var 4 (pv 4)) da_nil))) da_nil) (fun t ht => pe_bm PySem.F.plainAttrs_list PySem.F.slot_list_append PySem.F.type_list_append mt_append (pv 1) ht)))) bN_ne)) (bTup_ne (bCons_ne bN_ne (bCons_ne bN_ne bNil_ne))))
    (dss_one (ds_retV 1 (pv 1)))))
theorem kn_mixed_at (T : Tx w K mg) : Knows P w K mg base "mixed_at" 1 ["sight"] f_mixed_at :=
  kn_mk (st := s_mixed_at) (T.says.def_ 20 rfl) sc_mixed_at T.glo_mixed_at (fun _ _ _ _ _ _ us hl => match us, hl with | [_], _ => rfl) fun cdv A outer s H E hr hx => by
  have hp := owns_cx (P := P) (w := w) (K := K) (mg := mg) (base := base) (N := N_mixed_at) (qual := "mixed_at") (scope := defScope s_mixed_at) (f := (He.ga K "mixed_at")) (cdv := cdv) (A := A) (outer := outer) (s := s) (H := H) (E := E)
  have tk := takes_cx (P := P) (w := w) (K := K) (mg := mg) (base := base) (N := N_mixed_at) (qual := "mixed_at") (scope := defScope s_mixed_at) (f := (He.ga K "mixed_at")) (cdv := cdv) (A := A) (outer := outer) (s := s) (H := H) (E := E)
  exact (dss_one (ds_ret (de_lc (own := [("at", 1), ("mark", 2)]) (sl := ([1] ++ ([2] ++ []))) rfl sc_mixed_at.nd (di_enum (by rfl) (T.free_enumerate) (da_cons (de_var 0 (pv 0)) da_nil)) (blkOk_by (N := N_mixed_at) (sc := defScope s_mixed_at) (by decide +kernel)) (by decide) (fun _ _ _ _ _ => (dg_tup rfl (dgs_cons (dg_name (i := 1) sc_mixed_at.nd rfl (by first | exact Or.inl rfl | exact Or.inr rfl)) (dgs_cons (dg_name (i := 2) sc_mixed_at.nd rfl (by first | exact Or.inl rfl | exact Or.inr rfl)) dgs_nil)))) (fun _ _ _ _ _ => (dts_one (dt_cmp (op_eqA hr.units) od_eq (de_var 2 (pv 2)) de_int (nomark _)))) (fun _ _ _ _ _ => (de_var 1 (pv 1))))))
theorem kn_live_pairs (T : Tx w K mg) : Knows P w K mg base "live_pairs" 2 ["folk"] f_live_pairs :=
  kn_mk (st := s_live_pairs) (T.says.def_ 21 rfl) sc_live_pairs T.glo_live_pairs (fun _ _ _ _ _ _ us hl => match us, hl with | [_], _ => rfl) fun cdv A outer s H E hr hx => by
  have hp := owns_cx (P := P) (w := w) (K := K) (mg := mg) (base := base) (N := N_live_pairs) (qual := "live_pairs") (scope := defScope s_live_pairs) (f := (He.ga K "live_pairs")) (cdv := cdv) (A := A) (outer := outer) (s := s) (H := H) (E := E)
  have tk := takes_cx (P := P) (w := w) (K := K) (mg := mg) (base := base) (N := N_live_pairs) (qual := "live_pairs") (scope := defScope s_live_pairs) (f := (He.ga K "live_pairs")) (cdv := cdv) (A := A) (outer := outer) (s := s) (H := H) (E := E)
  exact (dss_cons (ds_set (i := 1) sc_live_pairs.nd rfl (by first | exact Or.inl rfl | exact Or.inr rfl) de_newT)
    (dss_cons (ds_for hp rfl (di_any (de_var 0 (pv 0))) (dg_tup rfl (dgs_cons (dg_name (i := 2) sc_live_pairs.nd rfl (by first | exact Or.inl rfl | exact Or.inr rfl)) (dgs_cons (dg_name (i := 3) sc_live_pairs.nd rfl (by first | exact Or.inl rfl | exact Or.inr rfl)) dgs_nil))) (dss_one (ds_for hp rfl (di_any (de_kn (kn_pairs_of T) (hr.mono (by decide)) (by rfl) hx (da_cons (de_kn (kn_mixed_at T) (hr.mono (by decide)) (by rfl) hx (da_cons (de_var 3 (pv 3)) da_nil) (aCons_len aNil_len)) da_nil) (aCons_len aNil_len))) (dg_name (i := 4) sc_live_pairs.nd rfl (by first | exact Or.inl rfl | exact Or.inr rfl)) (dss_one (ds_putT (i := 1) (room2 hr) de_bl (pv 1) (de_var 4 (pv 4)))) bN_ne)) (bTup_ne (bCons_ne bN_ne (bCons_ne bN_ne bNil_ne))))
    (dss_one (ds_fix [1] (ds_ret (de_callB (cr_sortDT rfl (room64 hr)) cd_sortDT (by rfl) (T.free_sorted) (by decide +kernel) (da_cons (de_var 1 (pv 1)) da_nil)))))))
theorem kn_ways_of_mark (T : Tx w K mg) : Knows P w K mg base "ways_of_mark" 1 ["mark"] f_ways_of_mark :=
  kn_mk (st := s_ways_of_mark) (T.says.def_ 22 rfl) sc_ways_of_mark T.glo_ways_of_mark (fun _ _ _ _ _ _ us hl => match us, hl with | [_], _ => rfl) fun cdv A outer s H E hr hx => by
  have hp := owns_cx (P := P) (w := w) (K := K) (mg := mg) (base := base) (N := N_ways_of_mark) (qual := "ways_of_mark") (scope := defScope s_ways_of_mark) (f := (He.ga K "ways_of_mark")) (cdv := cdv) (A := A) (outer := outer) (s := s) (H := H) (E := E)
  have tk := takes_cx (P := P) (w := w) (K := K) (mg := mg) (base := base) (N := N_ways_of_mark) (qual := "ways_of_mark") (scope := defScope s_ways_of_mark) (f := (He.ga K "ways_of_mark")) (cdv := cdv) (A := A) (outer := outer) (s := s) (H := H) (E := E)
  exact (dss_cons (ds_if (dt_cmp (op_eqA hr.units) od_eq (de_var 0 (pv 0)) de_int (nomark _)) (dss_one (ds_ret (de_lst (da_cons de_int (da_cons de_int da_nil))))) dss_nil)
    (dss_one (ds_ret (de_lst (da_cons (de_var 0 (pv 0)) da_nil)))))
theorem kn_shows (T : Tx w K mg) : Knows P w K mg base "shows" 2 ["sight", "one", "other"] f_shows :=
  kn_mk (st := s_shows) (T.says.def_ 23 rfl) sc_shows T.glo_shows (fun _ _ _ _ _ _ us hl => match us, hl with | [_, _, _], _ => rfl) fun cdv A outer s H E hr hx => by
  have hp := owns_cx (P := P) (w := w) (K := K) (mg := mg) (base := base) (N := N_shows) (qual := "shows") (scope := defScope s_shows) (f := (He.ga K "shows")) (cdv := cdv) (A := A) (outer := outer) (s := s) (H := H) (E := E)
  have tk := takes_cx (P := P) (w := w) (K := K) (mg := mg) (base := base) (N := N_shows) (qual := "shows") (scope := defScope s_shows) (f := (He.ga K "shows")) (cdv := cdv) (A := A) (outer := outer) (s := s) (H := H) (E := E)
  exact (dss_cons (ds_if (DW.dt (dw_and (dt_cmp (op_eqA hr.units) od_eq (de_ix (de_var 0 (pv 0)) (de_var 1 (pv 1)) (fun _ _ => rfl)) de_int (nomark _)) (dw_and1 (dt_cmp (op_eqA hr.units) od_eq (de_ix (de_var 0 (pv 0)) (de_var 2 (pv 2)) (fun _ _ => rfl)) de_int (nomark _))))) (dss_one (ds_ret (de_lst da_nil))) dss_nil)
    (dss_cons (ds_set (i := 3) sc_shows.nd rfl (by first | exact Or.inl rfl | exact Or.inr rfl) (de_lst da_nil))
    (dss_cons (ds_for hp rfl (di_any (de_kn (kn_ways_of_mark T) (hr.mono (by decide)) (by rfl) hx (da_cons (de_ix (de_var 0 (pv 0)) (de_var 1 (pv 1)) (fun _ _ => rfl)) da_nil) (aCons_len aNil_len))) (dg_name (i := 4) sc_shows.nd rfl (by first | exact Or.inl rfl | exact Or.inr rfl)) (dss_one (ds_for hp rfl (di_any (de_kn (kn_ways_of_mark T) (hr.mono (by decide)) (by rfl) hx (da_cons (de_ix (de_var 0 (pv 0)) (de_var 2 (pv 2)) (fun _ _ => rfl)) da_nil) (aCons_len aNil_len))) (dg_name (i := 5) sc_shows.nd rfl (by first | exact Or.inl rfl | exact Or.inr rfl)) (dss_one (ds_mut (dm_mut PySem.F.slot_list_append PySem.F.type_list_append mt_append mut_append (pv 3) (da_cons (de_tup (da_cons (de_var 4 (pv 4)) (da_cons (de_var 5 (pv 5)) da_nil))) da_nil) (fun t ht => pe_bm PySem.F.plainAttrs_list PySem.F.slot_list_append PySem.F.type_list_append mt_append (pv 3) ht)))) bN_ne)) bN_ne)
    (dss_one (ds_retV 3 (pv 3))))))
theorem kn_shown_by (T : Tx w K mg) : Knows P w K mg base "shown_by" 3 ["folk", "one", "other"] f_shown_by :=
  kn_mk (st := s_shown_by) (T.says.def_ 24 rfl) sc_shown_by T.glo_shown_by (fun _ _ _ _ _ _ us hl => match us, hl with | [_, _, _], _ => rfl) fun cdv A outer s H E hr hx => by
  have hp := owns_cx (P := P) (w := w) (K := K) (mg := mg) (base := base) (N := N_shown_by) (qual := "shown_by") (scope := defScope s_shown_by) (f := (He.ga K "shown_by")) (cdv := cdv) (A := A) (outer := outer) (s := s) (H := H) (E := E)
  have tk := takes_cx (P := P) (w := w) (K := K) (mg := mg) (base := base) (N := N_shown_by) (qual := "shown_by") (scope := defScope s_shown_by) (f := (He.ga K "shown_by")) (cdv := cdv) (A := A) (outer := outer) (s := s) (H := H) (E := E)
  exact (dss_cons (ds_set (i := 3) sc_shown_by.nd rfl (by first | exact Or.inl rfl | exact Or.inr rfl) de_newT)
    (dss_cons (ds_for hp rfl (di_any (de_var 0 (pv 0))) (dg_tup rfl (dgs_cons (dg_name (i := 4) sc_shown_by.nd rfl (by first | exact Or.inl rfl | exact Or.inr rfl)) (dgs_cons (dg_name (i := 5) sc_shown_by.nd rfl (by first | exact Or.inl rfl | exact Or.inr rfl)) dgs_nil))) (dss_one (ds_for hp rfl (di_any (de_kn (kn_shows T) (hr.mono (by decide)) (by rfl) hx (da_cons (de_var 5 (pv 5)) (da_cons (de_var 1 (pv 1)) (da_cons (de_var 2 (pv 2)) da_nil))) (aCons_len (aCons_len (aCons_len aNil_len))))) (dg_name (i := 6) sc_shown_by.nd rfl (by first | exact Or.inl rfl | exact Or.inr rfl)) (dss_one (ds_if (dt_pub (dt_cmp (op_notInT (room2 hr)) od_notInT (de_var 6 (pv 6)) (de_var 3 (pv 3)) (by first | rfl | with_unfolding_all rfl))) (dss_one (ds_putT (i := 3) (room2 hr) (de_var 4 (pv 4)) (pv 3) (de_var 6 (pv 6)))) dss_nil)) bN_ne)) (bTup_ne (bCons_ne bN_ne (bCons_ne bN_ne bNil_ne))))
    (dss_one (ds_retV 3 (pv 3)))))
theorem kn_forced (T : Tx w K mg) : Knows P w K mg base "forced" 4 ["folk"] f_forced :=
  kn_mk (st := s_forced) (T.says.def_ 25 rfl) sc_forced T.glo_forced (fun _ _ _ _ _ _ us hl => match us, hl with | [_], _ => rfl) fun cdv A outer s H E hr hx => by
  have hp := owns_cx (P := P) (w := w) (K := K) (mg := mg) (base := base) (N := N_forced) (qual := "forced") (scope := defScope s_forced) (f := (He.ga K "forced")) (cdv := cdv) (A := A) (outer := outer) (s := s) (H := H) (E := E)
  have tk := takes_cx (P := P) (w := w) (K := K) (mg := mg) (base := base) (N := N_forced) (qual := "forced") (scope := defScope s_forced) (f := (He.ga K "forced")) (cdv := cdv) (A := A) (outer := outer) (s := s) (H := H) (E := E)
  exact (dss_cons (ds_set (i := 1) sc_forced.nd rfl (by first | exact Or.inl rfl | exact Or.inr rfl) (de_lst da_nil))
    (dss_cons (ds_for hp rfl (di_any (de_kn (kn_live_pairs T) (hr.mono (by decide)) (by rfl) hx (da_cons (de_var 0 (pv 0)) da_nil) (aCons_len aNil_len))) (dg_tup rfl (dgs_cons (dg_name (i := 2) sc_forced.nd rfl (by first | exact Or.inl rfl | exact Or.inr rfl)) (dgs_cons (dg_name (i := 3) sc_forced.nd rfl (by first | exact Or.inl rfl | exact Or.inr rfl)) dgs_nil))) (dss_cons (ds_set (i := 4) sc_forced.nd rfl (by first | exact Or.inl rfl | exact Or.inr rfl) (de_kn (kn_shown_by T) (hr.mono (by decide)) (by rfl) hx (da_cons (de_var 0 (pv 0)) (da_cons (de_var 2 (pv 2)) (da_cons (de_var 3 (pv 3)) da_nil))) (aCons_len (aCons_len (aCons_len aNil_len)))))
    (dss_one (ds_fix [4] (ds_if (dt_cmp (op_inT (room2 hr)) od_inT (de_tup (da_cons de_int (da_cons de_int da_nil))) (de_var 4 (pv 4)) (by first | rfl | with_unfolding_all rfl)) (dss_one (ds_fix [4] (ds_mut (dm_mut PySem.F.slot_list_append PySem.F.type_list_append mt_append mut_append (pv 1) (da_cons (de_tup (da_cons de_str (da_cons (de_var 2 (pv 2)) (da_cons (de_var 3 (pv 3)) (da_cons (de_getT (room2 hr) (de_var 4 (pv 4)) (de_tup (da_cons de_int (da_cons de_int da_nil))) (fun _ _ => rfl)) da_nil))))) da_nil) (fun t ht => pe_bm PySem.F.plainAttrs_list PySem.F.slot_list_append PySem.F.type_list_append mt_append (pv 1) ht))))) (dss_one (ds_fix [4] (ds_if (DW.dt (dw_and (dt_cmp (op_inT (room2 hr)) od_inT (de_tup (da_cons de_int (da_cons de_int da_nil))) (de_var 4 (pv 4)) (by first | rfl | with_unfolding_all rfl)) (dw_and1 (dt_cmp (op_inT (room2 hr)) od_inT (de_tup (da_cons de_int (da_cons de_int da_nil))) (de_var 4 (pv 4)) (by first | rfl | with_unfolding_all rfl))))) (dss_one (ds_fix [4] (ds_mut (dm_mut PySem.F.slot_list_append PySem.F.type_list_append mt_append mut_append (pv 1) (da_cons (de_tup (da_cons de_str (da_cons (de_var 2 (pv 2)) (da_cons (de_var 3 (pv 3)) (da_cons (de_getT (room2 hr) (de_var 4 (pv 4)) (de_tup (da_cons de_int (da_cons de_int da_nil))) (fun _ _ => rfl)) (da_cons (de_getT (room2 hr) (de_var 4 (pv 4)) (de_tup (da_cons de_int (da_cons de_int da_nil))) (fun _ _ => rfl)) da_nil)))))) da_nil) (fun t ht => pe_bm PySem.F.plainAttrs_list PySem.F.slot_list_append PySem.F.type_list_append mt_append (pv 1) ht))))) dss_nil))))))) (bTup_ne (bCons_ne bN_ne (bCons_ne bN_ne bNil_ne))))
    (dss_one (ds_retV 1 (pv 1)))))
theorem kn_threes (T : Tx w K mg) : Knows P w K mg base "threes" 2 ["name", "sight"] f_threes :=
  kn_mk (st := s_threes) (T.says.def_ 26 rfl) sc_threes T.glo_threes (fun _ _ _ _ _ _ us hl => match us, hl with | [_, _], _ => rfl) fun cdv A outer s H E hr hx => by
  have hp := owns_cx (P := P) (w := w) (K := K) (mg := mg) (base := base) (N := N_threes) (qual := "threes") (scope := defScope s_threes) (f := (He.ga K "threes")) (cdv := cdv) (A := A) (outer := outer) (s := s) (H := H) (E := E)
  have tk := takes_cx (P := P) (w := w) (K := K) (mg := mg) (base := base) (N := N_threes) (qual := "threes") (scope := defScope s_threes) (f := (He.ga K "threes")) (cdv := cdv) (A := A) (outer := outer) (s := s) (H := H) (E := E)
  exact (dss_cons (ds_set (i := 2) sc_threes.nd rfl (by first | exact Or.inl rfl | exact Or.inr rfl) (de_kn (kn_mixed_at T) (hr.mono (by decide)) (by rfl) hx (da_cons (de_var 1 (pv 1)) da_nil) (aCons_len aNil_len)))
    (dss_cons (ds_fix [2] (ds_if (dt_cmp (op_eqA hr.units) od_eq (de_callB call_lenA cd_len (by rfl) (T.free_len) (by decide +kernel) (da_cons (de_var 2 (pv 2)) da_nil)) de_int (nomark _)) (dss_one (ds_ret (de_lst da_nil))) dss_nil))
    (dss_one (ds_fix [2] (ds_ret (de_lc (own := [("one", 3), ("other", 4)]) (sl := ([3] ++ ([4] ++ []))) rfl sc_threes.nd (di_any (de_kn (kn_pairs_of T) (hr.mono (by decide)) (by rfl) hx (da_cons (de_sl (de_var 2 (pv 2)) (do_some de_int) do_none) da_nil) (aCons_len aNil_len))) (blkOk_by (N := N_threes) (sc := defScope s_threes) (by decide +kernel)) (by decide) (fun _ _ _ _ _ => (dg_tup rfl (dgs_cons (dg_name (i := 3) sc_threes.nd rfl (by first | exact Or.inl rfl | exact Or.inr rfl)) (dgs_cons (dg_name (i := 4) sc_threes.nd rfl (by first | exact Or.inl rfl | exact Or.inr rfl)) dgs_nil)))) (fun _ _ _ _ _ => dts_nil) (fun _ _ _ _ _ => (de_tup (da_cons de_str (da_cons (de_var 0 (pv 0)) (da_cons (de_ix (de_var 2 (pv 2)) de_int (fun _ _ => rfl)) (da_cons (de_var 3 (pv 3)) (da_cons (de_var 4 (pv 4)) da_nil)))))))))))))
theorem kn_facts_of (T : Tx w K mg) : Knows P w K mg base "facts_of" 5 ["folk", "said"] f_facts_of :=
  kn_mk (st := s_facts_of) (T.says.def_ 27 rfl) sc_facts_of T.glo_facts_of (fun _ _ _ _ _ _ us hl => match us, hl with | [_, _], _ => rfl) fun cdv A outer s H E hr hx => by
  have hp := owns_cx (P := P) (w := w) (K := K) (mg := mg) (base := base) (N := N_facts_of) (qual := "facts_of") (scope := defScope s_facts_of) (f := (He.ga K "facts_of")) (cdv := cdv) (A := A) (outer := outer) (s := s) (H := H) (E := E)
  have tk := takes_cx (P := P) (w := w) (K := K) (mg := mg) (base := base) (N := N_facts_of) (qual := "facts_of") (scope := defScope s_facts_of) (f := (He.ga K "facts_of")) (cdv := cdv) (A := A) (outer := outer) (s := s) (H := H) (E := E)
  exact (dss_cons (ds_set (i := 2) sc_facts_of.nd rfl (by first | exact Or.inl rfl | exact Or.inr rfl) (de_lst da_nil))
    (dss_cons (ds_for hp rfl (di_any (de_var 0 (pv 0))) (dg_tup rfl (dgs_cons (dg_name (i := 3) sc_facts_of.nd rfl (by first | exact Or.inl rfl | exact Or.inr rfl)) (dgs_cons (dg_name (i := 4) sc_facts_of.nd rfl (by first | exact Or.inl rfl | exact Or.inr rfl)) dgs_nil))) (dss_one (ds_mut (dm_mut PySem.F.slot_list_extend PySem.F.type_list_extend mt_extend mut_extend (pv 2) (da_cons (de_kn (kn_threes T) (hr.mono (by decide)) (by rfl) hx (da_cons (de_var 3 (pv 3)) (da_cons (de_var 4 (pv 4)) da_nil)) (aCons_len (aCons_len aNil_len))) da_nil) (fun t ht => pe_bm PySem.F.plainAttrs_list PySem.F.slot_list_extend PySem.F.type_list_extend mt_extend (pv 2) ht)))) (bTup_ne (bCons_ne bN_ne (bCons_ne bN_ne bNil_ne))))
    (dss_cons (ds_mut (dm_mut PySem.F.slot_list_extend PySem.F.type_list_extend mt_extend mut_extend (pv 2) (da_cons (de_kn (kn_forced T) (hr.mono (by decide)) (by rfl) hx (da_cons (de_var 0 (pv 0)) da_nil) (aCons_len aNil_len)) da_nil) (fun t ht => pe_bm PySem.F.plainAttrs_list PySem.F.slot_list_extend PySem.F.type_list_extend mt_extend (pv 2) ht)))
    (dss_cons (ds_for hp rfl (di_any (de_var 1 (pv 1))) (dg_tup rfl (dgs_cons (dg_name (i := 3) sc_facts_of.nd rfl (by first | exact Or.inl rfl | exact Or.inr rfl)) (dgs_cons (dg_name (i := 5) sc_facts_of.nd rfl (by first | exact Or.inl rfl | exact Or.inr rfl)) (dgs_cons (dg_name (i := 6) sc_facts_of.nd rfl (by first | exact Or.inl rfl | exact Or.inr rfl)) (dgs_cons (dg_name (i := 7) sc_facts_of.nd rfl (by first | exact Or.inl rfl | exact Or.inr rfl)) dgs_nil))))) (dss_one (ds_mut (dm_mut PySem.F.slot_list_append PySem.F.type_list_append mt_append mut_append (pv 2) (da_cons (de_tup (da_cons de_str (da_cons (de_var 3 (pv 3)) (da_cons (de_var 5 (pv 5)) (da_cons (de_var 6 (pv 6)) (da_cons (de_var 7 (pv 7)) da_nil)))))) da_nil) (fun t ht => pe_bm PySem.F.plainAttrs_list PySem.F.slot_list_append PySem.F.type_list_append mt_append (pv 2) ht)))) (bTup_ne (bCons_ne bN_ne (bCons_ne bN_ne (bCons_ne bN_ne (bCons_ne bN_ne bNil_ne))))))
    (dss_one (ds_retV 2 (pv 2)))))))
theorem kn_has_all (T : Tx w K mg) : Knows P w K mg base "has_all" 1 ["by"] f_has_all :=
  kn_mk (st := s_has_all) (T.says.def_ 28 rfl) sc_has_all T.glo_has_all (fun _ _ _ _ _ _ us hl => match us, hl with | [_], _ => rfl) fun cdv A outer s H E hr hx => by
  have hp := owns_cx (P := P) (w := w) (K := K) (mg := mg) (base := base) (N := N_has_all) (qual := "has_all") (scope := defScope s_has_all) (f := (He.ga K "has_all")) (cdv := cdv) (A := A) (outer := outer) (s := s) (H := H) (E := E)
  have tk := takes_cx (P := P) (w := w) (K := K) (mg := mg) (base := base) (N := N_has_all) (qual := "has_all") (scope := defScope s_has_all) (f := (He.ga K "has_all")) (cdv := cdv) (A := A) (outer := outer) (s := s) (H := H) (E := E)
  exact (dss_one (ds_ret (de_callB (cr_all rfl) cd_all (by rfl) (T.free_all) (by decide +kernel) (da_cons (de_lc (own := [("pair", 1)]) (sl := [1]) rfl sc_has_all.nd (di_con (by rfl) T.con_BARRING) (blkOk_by (N := N_has_all) (sc := defScope s_has_all) (by decide +kernel)) (by decide) (fun _ _ _ _ _ => (dg_name (i := 1) sc_has_all.nd rfl (by first | exact Or.inl rfl | exact Or.inr rfl))) (fun _ _ _ _ _ => dts_nil) (fun _ _ _ _ _ => (de_cmp (op_inT (room2 hr)) od_inT (de_var 1 (pv 1)) (de_var 0 (pv 0)) (by first | rfl | with_unfolding_all rfl)))) da_nil))))
theorem kn_clash (T : Tx w K mg) : Knows P w K mg base "clash" 4 ["folk", "many"] f_clash :=
  kn_mk (st := s_clash) (T.says.def_ 29 rfl) sc_clash T.glo_clash (fun _ _ _ _ _ _ us hl => match us, hl with | [_, _], _ => rfl) fun cdv A outer s H E hr hx => by
  have hp := owns_cx (P := P) (w := w) (K := K) (mg := mg) (base := base) (N := N_clash) (qual := "clash") (scope := defScope s_clash) (f := (He.ga K "clash")) (cdv := cdv) (A := A) (outer := outer) (s := s) (H := H) (E := E)
  have tk := takes_cx (P := P) (w := w) (K := K) (mg := mg) (base := base) (N := N_clash) (qual := "clash") (scope := defScope s_clash) (f := (He.ga K "clash")) (cdv := cdv) (A := A) (outer := outer) (s := s) (H := H) (E := E)
  exact (dss_cons (ds_for hp rfl (di_any (de_kn (kn_pairs_of T) (hr.mono (by decide)) (by rfl) hx (da_cons (de_listRg1 rfl (by rfl) (T.free_list) (by rfl) (T.free_range) (de_var 1 (pv 1))) da_nil) (aCons_len aNil_len))) (dg_tup rfl (dgs_cons (dg_name (i := 2) sc_clash.nd rfl (by first | exact Or.inl rfl | exact Or.inr rfl)) (dgs_cons (dg_name (i := 3) sc_clash.nd rfl (by first | exact Or.inl rfl | exact Or.inr rfl)) dgs_nil))) (dss_cons (ds_set (i := 4) sc_clash.nd rfl (by first | exact Or.inl rfl | exact Or.inr rfl) (de_kn (kn_shown_by T) (hr.mono (by decide)) (by rfl) hx (da_cons (de_var 0 (pv 0)) (da_cons (de_var 2 (pv 2)) (da_cons (de_var 3 (pv 3)) da_nil))) (aCons_len (aCons_len (aCons_len aNil_len)))))
    (dss_one (ds_fix [4] (ds_if (dt_val (de_kn (kn_has_all T) (hr.mono (by decide)) (by rfl) hx (da_cons (de_var 4 (pv 4)) da_nil) (aCons_len aNil_len))) (dss_one (ds_fix [4] (ds_ret (de_tup (da_cons de_str (da_cons (de_var 2 (pv 2)) (da_cons (de_var 3 (pv 3)) (da_cons (de_getT (room2 hr) (de_var 4 (pv 4)) (de_tup (da_cons de_int (da_cons de_int da_nil))) (fun _ _ => rfl)) (da_cons (de_getT (room2 hr) (de_var 4 (pv 4)) (de_tup (da_cons de_int (da_cons de_int da_nil))) (fun _ _ => rfl)) (da_cons (de_getT (room2 hr) (de_var 4 (pv 4)) (de_tup (da_cons de_int (da_cons de_int da_nil))) (fun _ _ => rfl)) da_nil)))))))))) dss_nil)))) (bTup_ne (bCons_ne bN_ne (bCons_ne bN_ne bNil_ne))))
    (dss_one (ds_ret de_non)))
theorem knM2_Joints_looked (T : Tx w K mg) : KnowsM2 P w K mg base "Joints" "looked" 6 ["self"] f2_Joints_looked :=
  ⟨T.cls_Joints, T.meth_Joints_looked, fn2_mk (st := s_Joints_looked) (T.says.def_ 30 rfl) sc_Joints_looked (fun _ _ _ _ _ _ us hl => match us, hl with | [_], _ => rfl) fun cdv A outer s H E hr tk => by
  have hp := owns_cx (P := P) (w := w) (K := K) (mg := mg) (base := base) (N := N_Joints_looked) (qual := "Joints.looked") (scope := defScope s_Joints_looked) (f := (He.ma K (He.ga K "Joints") "looked")) (cdv := cdv) (A := A) (outer := outer) (s := s) (H := H) (E := E)
  have hx := L2N.passes_call tk fun _ _ _ _ z => z
  exact (ss2_cons (s2_set (i := 1) sc_Joints_looked.nd rfl (by first | exact Or.inl rfl | exact Or.inr rfl) (e2_pub false (de_kn (kn_clash T) (hr.mono (by decide)) (by rfl) hx (da_cons (de_fld T.cls_Joints T.noat_Joints_told (de_var 0 (pv 0))) (da_cons (de_callB call_lenA cd_len (by rfl) (T.free_len) (by decide +kernel) (da_cons (de_fld T.cls_Joints T.noat_Joints_base (de_var 0 (pv 0))) da_nil)) da_nil)) (aCons_len (aCons_len aNil_len)))))
    (ss2_cons (s2_if (t2_lift (dt_cmp op_notN od_notN (de_var 1 (pv 1)) de_non (nomark _))) (ss2_one (s2_ret (e2_lift (de_var 1 (pv 1))))) ss2_nil)
    (ss2_cons (s2_set (i := 2) sc_Joints_looked.nd rfl (by first | exact Or.inl rfl | exact Or.inr rfl) (e2_pub false (de_kn (kn_facts_of T) (hr.mono (by decide)) (by rfl) hx (da_cons (de_fld T.cls_Joints T.noat_Joints_told (de_var 0 (pv 0))) (da_cons (de_fld T.cls_Joints T.noat_Joints_said (de_var 0 (pv 0))) da_nil)) (aCons_len (aCons_len aNil_len)))))
    (ss2_cons (s2_fix [2] (s2_for hp rfl (i2_lift (di_enum (by rfl) (T.free_enumerate) (da_cons (de_var 2 (pv 2)) da_nil))) (g2_tup rfl (gs2_cons (g2_name (i := 3) sc_Joints_looked.nd rfl (by first | exact Or.inl rfl | exact Or.inr rfl)) (gs2_cons (g2_name (i := 4) sc_Joints_looked.nd rfl (by first | exact Or.inl rfl | exact Or.inr rfl)) gs2_nil))) (ss2_cons (s2_asg (e2_lift (de_kn (kn_sum_of T) (hr.mono (by decide)) (by rfl) hx (da_cons (de_var 4 (pv 4)) da_nil) (aCons_len aNil_len))) (g2_tup rfl (gs2_cons (g2_name (i := 6) sc_Joints_looked.nd rfl (by first | exact Or.inl rfl | exact Or.inr rfl)) (gs2_cons (g2_name (i := 7) sc_Joints_looked.nd rfl (by first | exact Or.inl rfl | exact Or.inr rfl)) gs2_nil))))
    (ss2_cons (s2_set (i := 5) sc_Joints_looked.nd rfl (by first | exact Or.inl rfl | exact Or.inr rfl) (e2_methS (knM2_Sums_take T) (e2_fldRef T.cls_Joints T.noat_Joints_sums (pv 0)) (a2_cons (e2_lift (de_var 6 (pv 6))) (a2_cons (e2_lift (de_var 7 (pv 7))) (a2_cons (e2_lift (de_var 3 (pv 3))) a2_nil))) (fun s svs s1 h => congrArg Nat.succ ((cons2_len (cons2_len (cons2_len nil2_len))) s svs s1 h)) (fun po pt hm F b c => pe_methA po c hm F (hr.mono (by decide)) b (fun σ => L2N.passAt tk σ) pt)))
    (ss2_one (s2_if (t2_lift (dt_cmp op_notN od_notN (de_var 5 (pv 5)) de_non (nomark _))) (ss2_one (s2_fix [2] (s2_ret (e2_lift (de_tup (da_cons de_str (da_cons (de_callTy call_tuple_of cd_tuple (by rfl) (T.free_tuple) (by decide +kernel) (da_cons (de_lc (own := [("k", 8)]) (sl := [8]) rfl sc_Joints_looked.nd (di_any (de_var 5 (pv 5))) (blkOk_by (N := N_Joints_looked) (sc := defScope s_Joints_looked) (by decide +kernel)) (by decide) (fun _ _ _ _ _ => (dg_name (i := 8) sc_Joints_looked.nd rfl (by first | exact Or.inl rfl | exact Or.inr rfl))) (fun _ _ _ _ _ => dts_nil) (fun _ _ _ _ _ => (de_ix (de_var 2 (pv 2)) (de_var 8 (pv 8)) (fun _ _ => rfl)))) da_nil)) da_nil))))))) ss2_nil))))))
    (ss2_one (s2_ret (e2_lift de_non)))))))⟩
theorem knI_Sums_init__ (T : Tx w K mg) : KnowsI P w K mg base "Sums" 1 ["self"] f2_Sums_init__ :=
  ⟨T.glo_Sums, T.mkr_Sums, fn2_mk (st := s_Sums_init__) (T.says.def_ 31 rfl) sc_Sums_init__ (fun _ _ _ _ _ _ us hl => match us, hl with | [_], _ => rfl) fun cdv A outer s H E hr tk => by
  have hp := owns_cx (P := P) (w := w) (K := K) (mg := mg) (base := base) (N := N_Sums_init__) (qual := "Sums.__init__") (scope := defScope s_Sums_init__) (f := (He.ma K (He.ga K "Sums") "__init__")) (cdv := cdv) (A := A) (outer := outer) (s := s) (H := H) (E := E)
  have hx := L2N.passes_call tk fun _ _ _ _ z => z
  exact (ss2_one (s2_fld T.cls_Sums T.noat_Sums_kept (pv 0) (e2_fz (e2_lift (de_lst da_nil)))))⟩
theorem kn_changed_mark (T : Tx w K mg) : Knows P w K mg base "changed_mark" 1 ["mark", "ground"] f_changed_mark :=
  kn_mk (st := s_changed_mark) (T.says.def_ 32 rfl) sc_changed_mark T.glo_changed_mark (fun _ _ _ _ _ _ us hl => match us, hl with | [_, _], _ => rfl) fun cdv A outer s H E hr hx => by
  have hp := owns_cx (P := P) (w := w) (K := K) (mg := mg) (base := base) (N := N_changed_mark) (qual := "changed_mark") (scope := defScope s_changed_mark) (f := (He.ga K "changed_mark")) (cdv := cdv) (A := A) (outer := outer) (s := s) (H := H) (E := E)
  have tk := takes_cx (P := P) (w := w) (K := K) (mg := mg) (base := base) (N := N_changed_mark) (qual := "changed_mark") (scope := defScope s_changed_mark) (f := (He.ga K "changed_mark")) (cdv := cdv) (A := A) (outer := outer) (s := s) (H := H) (E := E)
  exact (dss_cons (ds_if (dt_cmp (op_eqA hr.units) od_eq (de_var 0 (pv 0)) de_int (nomark _)) (dss_one (ds_ret de_int)) dss_nil)
    (dss_one (ds_ret (de_op op_mod od_mod (de_op op_addA od_add (de_var 0 (pv 0)) (de_var 1 (pv 1))) de_int))))
theorem kn_against (T : Tx w K mg) : Knows P w K mg base "against" 2 ["row", "founder"] f_against :=
  kn_mk (st := s_against) (T.says.def_ 33 rfl) sc_against T.glo_against (fun _ _ _ _ _ _ us hl => match us, hl with | [_, _], _ => rfl) fun cdv A outer s H E hr hx => by
  have hp := owns_cx (P := P) (w := w) (K := K) (mg := mg) (base := base) (N := N_against) (qual := "against") (scope := defScope s_against) (f := (He.ga K "against")) (cdv := cdv) (A := A) (outer := outer) (s := s) (H := H) (E := E)
  have tk := takes_cx (P := P) (w := w) (K := K) (mg := mg) (base := base) (N := N_against) (qual := "against") (scope := defScope s_against) (f := (He.ga K "against")) (cdv := cdv) (A := A) (outer := outer) (s := s) (H := H) (E := E)
  exact (dss_one (ds_ret (de_callTy call_tuple_of cd_tuple (by rfl) (T.free_tuple) (by decide +kernel) (da_cons (de_lc (own := [("mark", 2), ("ground", 3)]) (sl := ([2] ++ ([3] ++ []))) rfl sc_against.nd (di_zip (by rfl) (T.free_zip) (da_cons (de_var 0 (pv 0)) (da_cons (de_var 1 (pv 1)) da_nil))) (blkOk_by (N := N_against) (sc := defScope s_against) (by decide +kernel)) (by decide) (fun _ _ _ _ _ => (dg_tup rfl (dgs_cons (dg_name (i := 2) sc_against.nd rfl (by first | exact Or.inl rfl | exact Or.inr rfl)) (dgs_cons (dg_name (i := 3) sc_against.nd rfl (by first | exact Or.inl rfl | exact Or.inr rfl)) dgs_nil)))) (fun _ _ _ _ _ => dts_nil) (fun _ _ _ _ _ => (de_kn (kn_changed_mark T) (hr.mono (by decide)) (by rfl) passN (da_cons (de_var 2 (pv 2)) (da_cons (de_var 3 (pv 3)) da_nil)) (aCons_len (aCons_len aNil_len))))) da_nil))))
theorem knI_Joints_init__ (T : Tx w K mg) : KnowsI P w K mg base "Joints" 7 ["self", "founder", "folk", "said"] f2_Joints_init__ :=
  ⟨T.glo_Joints, T.mkr_Joints, fn2_mk (st := s_Joints_init__) (T.says.def_ 34 rfl) sc_Joints_init__ (fun _ _ _ _ _ _ us hl => match us, hl with | [_, _, _, _], _ => rfl) fun cdv A outer s H E hr tk => by
  have hp := owns_cx (P := P) (w := w) (K := K) (mg := mg) (base := base) (N := N_Joints_init__) (qual := "Joints.__init__") (scope := defScope s_Joints_init__) (f := (He.ma K (He.ga K "Joints") "__init__")) (cdv := cdv) (A := A) (outer := outer) (s := s) (H := H) (E := E)
  have hx := L2N.passes_call tk fun _ _ _ _ z => z
  exact (ss2_cons (s2_fld T.cls_Joints T.noat_Joints_base (pv 0) (e2_fz (e2_lift (de_var 1 (pv 1)))))
    (ss2_cons (s2_fld T.cls_Joints T.noat_Joints_folk (pv 0) (e2_fz (e2_lift (de_var 2 (pv 2)))))
    (ss2_cons (s2_fld T.cls_Joints T.noat_Joints_said (pv 0) (e2_fz (e2_lift (de_var 3 (pv 3)))))
    (ss2_cons (s2_fld T.cls_Joints T.noat_Joints_told (pv 0) (e2_fz (e2_lift (de_lc (own := [("name", 4), ("sight", 5)]) (sl := ([4] ++ ([5] ++ []))) rfl sc_Joints_init__.nd (di_any (de_var 2 (pv 2))) (blkOk_by (N := N_Joints_init__) (sc := defScope s_Joints_init__) (by decide +kernel)) (by decide) (fun _ _ _ _ _ => (dg_tup rfl (dgs_cons (dg_name (i := 4) sc_Joints_init__.nd rfl (by first | exact Or.inl rfl | exact Or.inr rfl)) (dgs_cons (dg_name (i := 5) sc_Joints_init__.nd rfl (by first | exact Or.inl rfl | exact Or.inr rfl)) dgs_nil)))) (fun _ _ _ _ _ => dts_nil) (fun _ _ _ _ _ => (de_tup (da_cons (de_var 4 (pv 4)) (da_cons (de_kn (kn_against T) (hr.mono (by decide)) (by rfl) passN (da_cons (de_var 5 (pv 5)) (da_cons (de_var 1 (pv 1)) da_nil)) (aCons_len (aCons_len aNil_len))) da_nil))))))))
    (ss2_cons (s2_fld T.cls_Joints T.noat_Joints_pairs (pv 0) (e2_fz (e2_pub false (de_kn (kn_live_pairs T) (hr.mono (by decide)) (by rfl) hx (da_cons (de_fld T.cls_Joints T.noat_Joints_told (de_var 0 (pv 0))) da_nil) (aCons_len aNil_len)))))
    (ss2_cons (s2_fld T.cls_Joints T.noat_Joints_sums (pv 0) (e2_fz (e2_mk0 (knI_Sums_init__ T) (hr.mono (by decide)) (by rfl) tk rfl)))
    (ss2_one (s2_fld T.cls_Joints T.noat_Joints_paper (pv 0) (e2_fz (e2_methS0 (knM2_Joints_looked T) (e2_ref 0 (pv 0)) rfl (fun po hm F b c => pe_methA0 po c hm F (hr.mono (by decide)) b (fun σ => L2N.passAt tk σ))))))))))))⟩
theorem kn_law_row (T : Tx w K mg) : Knows P w K mg base "_law_row" 1 ["_law_cell_here", "_law_many", "_law_size"] f_law_row :=
  kn_mk (st := s_law_row) (T.says.def_ 35 rfl) sc_law_row T.glo_law_row (fun _ _ _ _ _ _ us hl => match us, hl with | [_, _, _], _ => rfl) fun cdv A outer s H E hr hx => by
  have hp := owns_cx (P := P) (w := w) (K := K) (mg := mg) (base := base) (N := N_law_row) (qual := "_law_row") (scope := defScope s_law_row) (f := (He.ga K "_law_row")) (cdv := cdv) (A := A) (outer := outer) (s := s) (H := H) (E := E)
  have tk := takes_cx (P := P) (w := w) (K := K) (mg := mg) (base := base) (N := N_law_row) (qual := "_law_row") (scope := defScope s_law_row) (f := (He.ga K "_law_row")) (cdv := cdv) (A := A) (outer := outer) (s := s) (H := H) (E := E)
  exact (dss_cons (ds_set (i := 3) sc_law_row.nd rfl (by first | exact Or.inl rfl | exact Or.inr rfl) (de_lst da_nil))
    (dss_cons (ds_if (dt_cmp (op_cmpA (op := .GtE) rfl hr.units) od_cmp (de_var 0 (pv 0)) (de_op op_pow od_pow de_int de_int) (nomark _)) (dss_cons (ds_set (i := 6) sc_law_row.nd rfl (by first | exact Or.inl rfl | exact Or.inr rfl) (de_op op_sub od_sub (de_var 0 (pv 0)) (de_op op_pow od_pow de_int de_int)))
    (dss_cons (ds_for hp rfl (di_rng1 (by rfl) (T.free_range) (da_cons (de_var 1 (pv 1)) da_nil)) (dg_name (i := 5) sc_law_row.nd rfl (by first | exact Or.inl rfl | exact Or.inr rfl)) (dss_cons (ds_mut (dm_mut PySem.F.slot_list_append PySem.F.type_list_append mt_append mut_append (pv 3) (da_cons (de_op op_mod od_mod (de_var 6 (pv 6)) (de_var 2 (pv 2))) da_nil) (fun t ht => pe_bm PySem.F.plainAttrs_list PySem.F.slot_list_append PySem.F.type_list_append mt_append (pv 3) ht)))
    (dss_one (ds_set (i := 6) sc_law_row.nd rfl (by first | exact Or.inl rfl | exact Or.inr rfl) (de_op op_fdivW od_div (de_var 6 (pv 6)) (de_var 2 (pv 2)))))) bN_ne)
    (dss_one (ds_retV 3 (pv 3))))) dss_nil)
    (dss_cons (ds_set (i := 4) sc_law_row.nd rfl (by first | exact Or.inl rfl | exact Or.inr rfl) (de_op op_mod od_mod (de_var 0 (pv 0)) de_int))
    (dss_cons (ds_for hp rfl (di_rng1 (by rfl) (T.free_range) (da_cons (de_var 1 (pv 1)) da_nil)) (dg_name (i := 5) sc_law_row.nd rfl (by first | exact Or.inl rfl | exact Or.inr rfl)) (dss_cons (ds_set (i := 4) sc_law_row.nd rfl (by first | exact Or.inl rfl | exact Or.inr rfl) (de_op op_mod od_mod (de_op op_addA od_add (de_op op_addA od_add (de_op op_mulA od_mul (de_var 4 (pv 4)) de_int) de_int) (de_var 5 (pv 5))) de_int))
    (dss_cons (ds_set (i := 7) sc_law_row.nd rfl (by first | exact Or.inl rfl | exact Or.inr rfl) (de_op op_mod od_mod (de_op op_fdivW od_div (de_op op_mulA od_mul (de_var 4 (pv 4)) (de_op op_addA od_add (de_op op_mod od_mod (de_var 4 (pv 4)) de_int) de_int)) de_int) de_int))
    (dss_one (ds_mut (dm_mut PySem.F.slot_list_append PySem.F.type_list_append mt_append mut_append (pv 3) (da_cons (de_op op_mod od_mod (de_var 7 (pv 7)) (de_var 2 (pv 2))) da_nil) (fun t ht => pe_bm PySem.F.plainAttrs_list PySem.F.slot_list_append PySem.F.type_list_append mt_append (pv 3) ht)))))) bN_ne)
    (dss_one (ds_retV 3 (pv 3)))))))
theorem kn_law_sayings (T : Tx w K mg) : Knows P w K mg base "_law_sayings" 2 ["_law_folk", "_law_cell_here"] f_law_sayings :=
  kn_mk (st := s_law_sayings) (T.says.def_ 36 rfl) sc_law_sayings T.glo_law_sayings (fun _ _ _ _ _ _ us hl => match us, hl with | [_, _], _ => rfl) fun cdv A outer s H E hr hx => by
  have hp := owns_cx (P := P) (w := w) (K := K) (mg := mg) (base := base) (N := N_law_sayings) (qual := "_law_sayings") (scope := defScope s_law_sayings) (f := (He.ga K "_law_sayings")) (cdv := cdv) (A := A) (outer := outer) (s := s) (H := H) (E := E)
  have tk := takes_cx (P := P) (w := w) (K := K) (mg := mg) (base := base) (N := N_law_sayings) (qual := "_law_sayings") (scope := defScope s_law_sayings) (f := (He.ga K "_law_sayings")) (cdv := cdv) (A := A) (outer := outer) (s := s) (H := H) (E := E)
  exact (dss_cons (ds_set (i := 2) sc_law_sayings.nd rfl (by first | exact Or.inl rfl | exact Or.inr rfl) (de_lst da_nil))
    (dss_cons (ds_set (i := 3) sc_law_sayings.nd rfl (by first | exact Or.inl rfl | exact Or.inr rfl) (de_kn (kn_law_row T) (hr.mono (by decide)) (by rfl) hx (da_cons (de_var 1 (pv 1)) (da_cons (de_callB call_lenA cd_len (by rfl) (T.free_len) (by decide +kernel) (da_cons (de_var 0 (pv 0)) da_nil)) (da_cons de_int da_nil))) (aCons_len (aCons_len (aCons_len aNil_len)))))
    (dss_cons (ds_for hp rfl (di_rng1 (by rfl) (T.free_range) (da_cons (de_callB call_lenA cd_len (by rfl) (T.free_len) (by decide +kernel) (da_cons (de_var 0 (pv 0)) da_nil)) da_nil)) (dg_name (i := 4) sc_law_sayings.nd rfl (by first | exact Or.inl rfl | exact Or.inr rfl)) (dss_cons (ds_asg (de_ix (de_var 0 (pv 0)) (de_var 4 (pv 4)) (fun _ _ => rfl)) (dg_tup rfl (dgs_cons (dg_name (i := 6) sc_law_sayings.nd rfl (by first | exact Or.inl rfl | exact Or.inr rfl)) (dgs_cons (dg_name (i := 7) sc_law_sayings.nd rfl (by first | exact Or.inl rfl | exact Or.inr rfl)) dgs_nil))) (hb := (bTup_ne (bCons_ne bN_ne (bCons_ne bN_ne bNil_ne)))))
    (dss_cons (by first | exact ds_set (i := 5) sc_law_sayings.nd rfl (by first | exact Or.inl rfl | exact Or.inr rfl) (de_lc (own := [("_law_at", 11)]) (sl := [11]) rfl sc_law_sayings.nd (di_rng1 (by rfl) (T.free_range) (da_cons (de_callB call_lenA cd_len (by rfl) (T.free_len) (by decide +kernel) (da_cons (de_var 7 (pv 7)) da_nil)) da_nil)) (blkOk_by (N := N_law_sayings) (sc := defScope s_law_sayings) (by decide +kernel)) (by decide) (fun _ _ _ _ _ => (dg_name (i := 11) sc_law_sayings.nd rfl (by first | exact Or.inl rfl | exact Or.inr rfl))) (fun _ _ _ _ _ => (dts_one (dt_cmp (op_eqA hr.units) od_eq (de_ix (de_var 7 (pv 7)) (de_var 11 (pv 11)) (fun _ _ => rfl)) de_int (nomark _)))) (fun _ _ _ _ _ => (de_var 11 (pv 11)))) | exact ds_setLc (i := 5) (own := [("_law_at", 11)]) (sl := [11]) rfl sc_law_sayings.nd rfl rfl (sw_true rfl rfl rfl (by decide +kernel)) (di_rng1 (by rfl) (T.free_range) (da_cons (de_callB call_lenA cd_len (by rfl) (T.free_len) (by decide +kernel) (da_cons (de_var 7 (pv 7)) da_nil)) da_nil)) (blkOk_by (N := N_law_sayings) (sc := defScope s_law_sayings) (by decide +kernel)) (by decide) (fun _ _ _ _ _ => (dg_name (i := 11) sc_law_sayings.nd rfl (by first | exact Or.inl rfl | exact Or.inr rfl))) (fun _ _ _ _ _ => (dts_one (dt_cmp (op_eqA hr.units) od_eq (de_ix (de_var 7 (pv 7)) (de_var 11 (pv 11)) (fun _ _ => rfl)) de_int (nomark _)))) (fun _ _ _ _ _ => (de_var 11 (pv 11))))
    (dss_one (ds_fix [3, 5] (ds_if (DW.dt (dw_and (dt_cmp (op_eqA hr.units) od_eq (de_op op_mod od_mod (de_ix (de_var 3 (pv 3)) (de_var 4 (pv 4)) (fun _ _ => rfl)) de_int) de_int (nomark _)) (dw_and1 (dt_cmp (op_cmpA (op := .Gt) rfl hr.units) od_cmp (de_callB call_lenA cd_len (by rfl) (T.free_len) (by decide +kernel) (da_cons (de_var 5 (pv 5)) da_nil)) de_int (nomark _))))) (dss_cons (ds_fix [3, 5] (ds_set (i := 8) sc_law_sayings.nd rfl (by first | exact Or.inl rfl | exact Or.inr rfl) (de_op op_mod od_mod (de_op op_fdivW od_div (de_ix (de_var 3 (pv 3)) (de_var 4 (pv 4)) (fun _ _ => rfl)) de_int) (de_callB call_lenA cd_len (by rfl) (T.free_len) (by decide +kernel) (da_cons (de_var 5 (pv 5)) da_nil)))))
    (dss_cons (ds_fix [3, 5] (ds_set (i := 9) sc_law_sayings.nd rfl (by first | exact Or.inl rfl | exact Or.inr rfl) (de_op op_mod od_mod (de_op op_addA od_add (de_op op_addA od_add (de_var 8 (pv 8)) de_int) (de_op op_mod od_mod (de_op op_fdivW od_div (de_ix (de_var 3 (pv 3)) (de_var 4 (pv 4)) (fun _ _ => rfl)) de_int) (de_op op_sub od_sub (de_callB call_lenA cd_len (by rfl) (T.free_len) (by decide +kernel) (da_cons (de_var 5 (pv 5)) da_nil)) de_int))) (de_callB call_lenA cd_len (by rfl) (T.free_len) (by decide +kernel) (da_cons (de_var 5 (pv 5)) da_nil)))))
    (dss_cons (ds_fix [3] (ds_set (i := 10) sc_law_sayings.nd rfl (by first | exact Or.inl rfl | exact Or.inr rfl) (de_ix (de_lst (da_cons de_str (da_cons de_str da_nil))) (de_op op_mod od_mod (de_op op_fdivW od_div (de_ix (de_var 3 (pv 3)) (de_var 4 (pv 4)) (fun _ _ => rfl)) de_int) de_int) (fun _ _ => rfl))))
    (dss_one (ds_fix [5] (ds_mut (dm_mut PySem.F.slot_list_append PySem.F.type_list_append mt_append mut_append (pv 2) (da_cons (de_tup (da_cons (de_var 6 (pv 6)) (da_cons (de_callB (call_min2 rfl) cd_min2 (by rfl) (T.free_min) (by decide +kernel) (da_cons (de_ix (de_var 5 (pv 5)) (de_var 8 (pv 8)) (fun _ _ => rfl)) (da_cons (de_ix (de_var 5 (pv 5)) (de_var 9 (pv 9)) (fun _ _ => rfl)) da_nil))) (da_cons (de_callB (call_max2 rfl) cd_max2 (by rfl) (T.free_max) (by decide +kernel) (da_cons (de_ix (de_var 5 (pv 5)) (de_var 8 (pv 8)) (fun _ _ => rfl)) (da_cons (de_ix (de_var 5 (pv 5)) (de_var 9 (pv 9)) (fun _ _ => rfl)) da_nil))) (da_cons (de_var 10 (pv 10)) da_nil))))) da_nil) (fun t ht => pe_bm PySem.F.plainAttrs_list PySem.F.slot_list_append PySem.F.type_list_append mt_append (pv 2) ht)))))))) dss_nil))))) bN_ne)
    (dss_one (ds_retV 2 (pv 2))))))
theorem kn_law_cell (T : Tx w K mg) : Knows P w K mg base "_law_cell" 1 ["_law_script", "_law_at"] f_law_cell :=
  kn_mk (st := s_law_cell) (T.says.def_ 37 rfl) sc_law_cell T.glo_law_cell (fun _ _ _ _ _ _ us hl => match us, hl with | [_, _], _ => rfl) fun cdv A outer s H E hr hx => by
  have hp := owns_cx (P := P) (w := w) (K := K) (mg := mg) (base := base) (N := N_law_cell) (qual := "_law_cell") (scope := defScope s_law_cell) (f := (He.ga K "_law_cell")) (cdv := cdv) (A := A) (outer := outer) (s := s) (H := H) (E := E)
  have tk := takes_cx (P := P) (w := w) (K := K) (mg := mg) (base := base) (N := N_law_cell) (qual := "_law_cell") (scope := defScope s_law_cell) (f := (He.ga K "_law_cell")) (cdv := cdv) (A := A) (outer := outer) (s := s) (H := H) (E := E)
  exact (dss_cons (ds_if (dt_cmp (op_cmpA (op := .Lt) rfl hr.units) od_cmp (de_var 1 (pv 1)) (de_callB call_lenA cd_len (by rfl) (T.free_len) (by decide +kernel) (da_cons (de_var 0 (pv 0)) da_nil)) (nomark _)) (dss_one (ds_ret (de_ix (de_var 0 (pv 0)) (de_var 1 (pv 1)) (fun _ _ => rfl)))) dss_nil)
    (dss_one (ds_ret de_int)))
theorem kn_law_name (T : Tx w K mg) : Knows P w K mg base "_law_name" 1 ["_law_cell_here", "_law_k"] f_law_name :=
  kn_mk (st := s_law_name) (T.says.def_ 38 rfl) sc_law_name T.glo_law_name (fun _ _ _ _ _ _ us hl => match us, hl with | [_, _], _ => rfl) fun cdv A outer s H E hr hx => by
  have hp := owns_cx (P := P) (w := w) (K := K) (mg := mg) (base := base) (N := N_law_name) (qual := "_law_name") (scope := defScope s_law_name) (f := (He.ga K "_law_name")) (cdv := cdv) (A := A) (outer := outer) (s := s) (H := H) (E := E)
  have tk := takes_cx (P := P) (w := w) (K := K) (mg := mg) (base := base) (N := N_law_name) (qual := "_law_name") (scope := defScope s_law_name) (f := (He.ga K "_law_name")) (cdv := cdv) (A := A) (outer := outer) (s := s) (H := H) (E := E)
  exact (dss_cons (ds_set (i := 2) sc_law_name.nd rfl (by first | exact Or.inl rfl | exact Or.inr rfl) de_str)
    (dss_cons (ds_if (dt_cmp (op_eqA hr.units) od_eq (de_op op_mod od_mod (de_var 0 (pv 0)) de_int) de_int (nomark _)) (dss_one (ds_ret (de_op op_mulA od_mul (de_ix (de_var 2 (pv 2)) (de_op op_mod od_mod (de_op op_fdivW od_div (de_var 0 (pv 0)) de_int) de_int) (fun _ _ => rfl)) (de_op op_addA od_add de_int (de_op op_mod od_mod (de_op op_addA od_add (de_op op_mulA od_mul de_int (de_var 1 (pv 1))) (de_op op_fdivW od_div (de_var 0 (pv 0)) de_int)) de_int))))) dss_nil)
    (dss_cons (ds_set (i := 3) sc_law_name.nd rfl (by first | exact Or.inl rfl | exact Or.inr rfl) (de_op op_addA od_add de_int (de_op op_mod od_mod (de_op op_fdivW od_div (de_var 0 (pv 0)) de_int) de_int)))
    (dss_cons (ds_set (i := 4) sc_law_name.nd rfl (by first | exact Or.inl rfl | exact Or.inr rfl) (de_op op_mulA od_mul (de_ix (de_var 2 (pv 2)) (de_op op_mod od_mod (de_op op_fdivW od_div (de_var 0 (pv 0)) de_int) de_int) (fun _ _ => rfl)) (de_var 3 (pv 3))))
    (dss_cons (ds_set (i := 5) sc_law_name.nd rfl (by first | exact Or.inl rfl | exact Or.inr rfl) (de_op op_mod od_mod (de_op op_fdivW od_div (de_var 0 (pv 0)) de_int) (de_var 3 (pv 3))))
    (dss_cons (ds_set (i := 6) sc_law_name.nd rfl (by first | exact Or.inl rfl | exact Or.inr rfl) (de_ix (de_var 2 (pv 2)) (de_op op_mod od_mod (de_op op_addA od_add (de_op op_fdivW od_div (de_var 0 (pv 0)) de_int) (de_op op_mulA od_mul de_int (de_var 1 (pv 1)))) de_int) (fun _ _ => rfl)))
    (dss_one (ds_ret (de_op op_addA od_add (de_op op_addA od_add (de_sl (de_var 4 (pv 4)) do_none (do_some (de_var 5 (pv 5)))) (de_var 6 (pv 6))) (de_sl (de_var 4 (pv 4)) (do_some (de_op op_addA od_add (de_var 5 (pv 5)) de_int)) do_none))))))))))
theorem kn_law_spoilt (T : Tx w K mg) : Knows P w K mg base "_law_spoilt" 2 ["_law_sights", "_law_script", "_law_at"] f_law_spoilt :=
  kn_mk (st := s_law_spoilt) (T.says.def_ 39 rfl) sc_law_spoilt T.glo_law_spoilt (fun _ _ _ _ _ _ us hl => match us, hl with | [_, _, _], _ => rfl) fun cdv A outer s H E hr hx => by
  have hp := owns_cx (P := P) (w := w) (K := K) (mg := mg) (base := base) (N := N_law_spoilt) (qual := "_law_spoilt") (scope := defScope s_law_spoilt) (f := (He.ga K "_law_spoilt")) (cdv := cdv) (A := A) (outer := outer) (s := s) (H := H) (E := E)
  have tk := takes_cx (P := P) (w := w) (K := K) (mg := mg) (base := base) (N := N_law_spoilt) (qual := "_law_spoilt") (scope := defScope s_law_spoilt) (f := (He.ga K "_law_spoilt")) (cdv := cdv) (A := A) (outer := outer) (s := s) (H := H) (E := E)
  exact (dss_cons (ds_set (i := 3) sc_law_spoilt.nd rfl (by first | exact Or.inl rfl | exact Or.inr rfl) (de_kn (kn_law_cell T) (hr.mono (by decide)) (by rfl) hx (da_cons (de_var 1 (pv 1)) (da_cons (de_op op_addA od_add (de_var 2 (pv 2)) de_int) da_nil)) (aCons_len (aCons_len aNil_len))))
    (dss_cons (ds_set (i := 4) sc_law_spoilt.nd rfl (by first | exact Or.inl rfl | exact Or.inr rfl) (de_op op_mod od_mod (de_var 3 (pv 3)) de_int))
    (dss_cons (ds_set (i := 5) sc_law_spoilt.nd rfl (by first | exact Or.inl rfl | exact Or.inr rfl) (de_lst da_nil))
    (dss_cons (ds_for hp rfl (di_rng1 (by rfl) (T.free_range) (da_cons (de_callB call_lenA cd_len (by rfl) (T.free_len) (by decide +kernel) (da_cons (de_var 0 (pv 0)) da_nil)) da_nil)) (dg_name (i := 6) sc_law_spoilt.nd rfl (by first | exact Or.inl rfl | exact Or.inr rfl)) (dss_cons (ds_set (i := 7) sc_law_spoilt.nd rfl (by first | exact Or.inl rfl | exact Or.inr rfl) (de_callTy call_list_of cd_list (by rfl) (T.free_list) (by decide +kernel) (da_cons (de_ix (de_var 0 (pv 0)) (de_var 6 (pv 6)) (fun _ _ => rfl)) da_nil)))
    (dss_cons (ds_set (i := 8) sc_law_spoilt.nd rfl (by first | exact Or.inl rfl | exact Or.inr rfl) (de_pub (de_kn (kn_law_row T) (hr.mono (by decide)) (by rfl) hx (da_cons (de_op op_addA od_add (de_op op_fdivW od_div (de_var 3 (pv 3)) de_int) (de_op op_mulA od_mul de_int (de_var 6 (pv 6)))) (da_cons (de_callB call_lenA cd_len (by rfl) (T.free_len) (by decide +kernel) (da_cons (de_var 7 (pv 7)) da_nil)) (da_cons de_int da_nil))) (aCons_len (aCons_len (aCons_len aNil_len))))))
    (dss_cons (ds_for hp rfl (di_rng1 (by rfl) (T.free_range) (da_cons (de_pub (de_callB call_lenA cd_len (by rfl) (T.free_len) (by decide +kernel) (da_cons (de_var 7 (pv 7)) da_nil))) da_nil)) (dg_name (i := 9) sc_law_spoilt.nd rfl (by first | exact Or.inl rfl | exact Or.inr rfl)) (dss_cons (ds_fix [8] (ds_set (i := 10) sc_law_spoilt.nd rfl (by first | exact Or.inl rfl | exact Or.inr rfl) (de_op op_mod od_mod (de_ix (de_var 8 (pv 8)) (de_var 9 (pv 9)) (fun _ _ => rfl)) de_int)))
    (dss_one (ds_if (DW.dt (dw_or (DW.dt (dw_and (dt_cmp (op_eqA hr.units) od_eq (de_var 4 (pv 4)) de_int (nomark _)) (dw_and1 (dt_cmp (op_cmpA (op := .Gt) rfl hr.units) od_cmp (de_var 10 (pv 10)) de_int (nomark _))))) (dw_or1 (DW.dt (dw_and (dt_cmp (op_eqA hr.units) od_eq (de_var 4 (pv 4)) de_int (nomark _)) (dw_and1 (dt_cmp (op_eqA hr.units) od_eq (de_var 10 (pv 10)) de_int (nomark _)))))))) (dss_one (ds_fix [8] (ds_setIx (i := 7) (de_op op_fdivW od_div (de_ix (de_var 8 (pv 8)) (de_var 9 (pv 9)) (fun _ _ => rfl)) de_int) (pv 7) (de_var 9 (pv 9))))) dss_nil))) bN_ne)
    (dss_one (ds_fix [7] (ds_mut (dm_mut PySem.F.slot_list_append PySem.F.type_list_append mt_append mut_append (pv 5) (da_cons (de_callTy call_tuple_of cd_tuple (by rfl) (T.free_tuple) (by decide +kernel) (da_cons (de_var 7 (pv 7)) da_nil)) da_nil) (fun t ht => pe_bm PySem.F.plainAttrs_list PySem.F.slot_list_append PySem.F.type_list_append mt_append (pv 5) ht)))))))) bN_ne)
    (dss_one (ds_retV 5 (pv 5)))))))
theorem kn_law_seen (T : Tx w K mg) : Knows P w K mg base "_law_seen" 1 ["_law_one", "_law_two"] f_law_seen :=
  kn_mk (st := s_law_seen) (T.says.def_ 40 rfl) sc_law_seen T.glo_law_seen (fun _ _ _ _ _ _ us hl => match us, hl with | [_, _], _ => rfl) fun cdv A outer s H E hr hx => by
  have hp := owns_cx (P := P) (w := w) (K := K) (mg := mg) (base := base) (N := N_law_seen) (qual := "_law_seen") (scope := defScope s_law_seen) (f := (He.ga K "_law_seen")) (cdv := cdv) (A := A) (outer := outer) (s := s) (H := H) (E := E)
  have tk := takes_cx (P := P) (w := w) (K := K) (mg := mg) (base := base) (N := N_law_seen) (qual := "_law_seen") (scope := defScope s_law_seen) (f := (He.ga K "_law_seen")) (cdv := cdv) (A := A) (outer := outer) (s := s) (H := H) (E := E)
  exact (dss_cons (ds_set (i := 2) sc_law_seen.nd rfl (by first | exact Or.inl rfl | exact Or.inr rfl) (de_lst da_nil))
    (dss_cons (ds_for hp rfl (di_rng1 (by rfl) (T.free_range) (da_cons (de_callB call_lenA cd_len (by rfl) (T.free_len) (by decide +kernel) (da_cons (de_var 0 (pv 0)) da_nil)) da_nil)) (dg_name (i := 3) sc_law_seen.nd rfl (by first | exact Or.inl rfl | exact Or.inr rfl)) (dss_one (ds_mut (dm_mut PySem.F.slot_list_append PySem.F.type_list_append mt_append mut_append (pv 2) (da_cons (de_if (dt_cmp (op_eqA hr.units) od_eq (de_ix (de_var 0 (pv 0)) (de_var 3 (pv 3)) (fun _ _ => rfl)) (de_ix (de_var 1 (pv 1)) (de_var 3 (pv 3)) (fun _ _ => rfl)) (nomark _)) (de_ix (de_var 0 (pv 0)) (de_var 3 (pv 3)) (fun _ _ => rfl)) de_int) da_nil) (fun t ht => pe_bm PySem.F.plainAttrs_list PySem.F.slot_list_append PySem.F.type_list_append mt_append (pv 2) ht)))) bN_ne)
    (dss_one (ds_fix [2] (ds_ret (de_callTy call_tuple_of cd_tuple (by rfl) (T.free_tuple) (by decide +kernel) (da_cons (de_var 2 (pv 2)) da_nil)))))))
theorem kn_law_pair_up (T : Tx w K mg) : Knows P w K mg base "_law_pair_up" 1 ["_law_one", "_law_two"] f_law_pair_up :=
  kn_mk (st := s_law_pair_up) (T.says.def_ 41 rfl) sc_law_pair_up T.glo_law_pair_up (fun _ _ _ _ _ _ us hl => match us, hl with | [_, _], _ => rfl) fun cdv A outer s H E hr hx => by
  have hp := owns_cx (P := P) (w := w) (K := K) (mg := mg) (base := base) (N := N_law_pair_up) (qual := "_law_pair_up") (scope := defScope s_law_pair_up) (f := (He.ga K "_law_pair_up")) (cdv := cdv) (A := A) (outer := outer) (s := s) (H := H) (E := E)
  have tk := takes_cx (P := P) (w := w) (K := K) (mg := mg) (base := base) (N := N_law_pair_up) (qual := "_law_pair_up") (scope := defScope s_law_pair_up) (f := (He.ga K "_law_pair_up")) (cdv := cdv) (A := A) (outer := outer) (s := s) (H := H) (E := E)
  exact (dss_one (ds_ret (de_if (dt_cmp (op_cmpA (op := .LtE) rfl hr.units) od_cmp (de_var 0 (pv 0)) (de_var 1 (pv 1)) (nomark _)) (de_tup (da_cons (de_var 0 (pv 0)) (da_cons (de_var 1 (pv 1)) da_nil))) (de_tup (da_cons (de_var 1 (pv 1)) (da_cons (de_var 0 (pv 0)) da_nil))))))
theorem kn_law_flip (T : Tx w K mg) : Knows P w K mg base "_law_flip" 1 ["_law_row_here", "_law_at"] f_law_flip :=
  kn_mk (st := s_law_flip) (T.says.def_ 42 rfl) sc_law_flip T.glo_law_flip (fun _ _ _ _ _ _ us hl => match us, hl with | [_, _], _ => rfl) fun cdv A outer s H E hr hx => by
  have hp := owns_cx (P := P) (w := w) (K := K) (mg := mg) (base := base) (N := N_law_flip) (qual := "_law_flip") (scope := defScope s_law_flip) (f := (He.ga K "_law_flip")) (cdv := cdv) (A := A) (outer := outer) (s := s) (H := H) (E := E)
  have tk := takes_cx (P := P) (w := w) (K := K) (mg := mg) (base := base) (N := N_law_flip) (qual := "_law_flip") (scope := defScope s_law_flip) (f := (He.ga K "_law_flip")) (cdv := cdv) (A := A) (outer := outer) (s := s) (H := H) (E := E)
  exact (dss_one (ds_ret (de_op op_addA od_add (de_op op_addA od_add (de_sl (de_var 0 (pv 0)) do_none (do_some (de_var 1 (pv 1)))) (de_tup (da_cons (de_op op_sub od_sub de_int (de_ix (de_var 0 (pv 0)) (de_var 1 (pv 1)) (fun _ _ => rfl))) da_nil))) (de_sl (de_var 0 (pv 0)) (do_some (de_op op_addA od_add (de_var 1 (pv 1)) de_int)) do_none))))
theorem kn_law_grown (T : Tx w K mg) : Knows P w K mg base "_law_grown" 2 ["_law_founder_here", "_law_cell_here"] f_law_grown :=
  kn_mk (st := s_law_grown) (T.says.def_ 43 rfl) sc_law_grown T.glo_law_grown (fun _ _ _ _ _ _ us hl => match us, hl with | [_, _], _ => rfl) fun cdv A outer s H E hr hx => by
  have hp := owns_cx (P := P) (w := w) (K := K) (mg := mg) (base := base) (N := N_law_grown) (qual := "_law_grown") (scope := defScope s_law_grown) (f := (He.ga K "_law_grown")) (cdv := cdv) (A := A) (outer := outer) (s := s) (H := H) (E := E)
  have tk := takes_cx (P := P) (w := w) (K := K) (mg := mg) (base := base) (N := N_law_grown) (qual := "_law_grown") (scope := defScope s_law_grown) (f := (He.ga K "_law_grown")) (cdv := cdv) (A := A) (outer := outer) (s := s) (H := H) (E := E)
  exact (dss_cons (ds_set (i := 2) sc_law_grown.nd rfl (by first | exact Or.inl rfl | exact Or.inr rfl) (de_lst (da_cons (de_var 0 (pv 0)) da_nil)))
    (dss_cons (ds_set (i := 3) sc_law_grown.nd rfl (by first | exact Or.inl rfl | exact Or.inr rfl) (de_listRg1 rfl (by rfl) (T.free_list) (by rfl) (T.free_range) (de_callB call_lenA cd_len (by rfl) (T.free_len) (by decide +kernel) (da_cons (de_var 0 (pv 0)) da_nil))))
    (dss_cons (ds_for hp rfl (di_any (de_kn (kn_law_row T) (hr.mono (by decide)) (by rfl) hx (da_cons (de_var 1 (pv 1)) (da_cons (de_callB call_lenA cd_len (by rfl) (T.free_len) (by decide +kernel) (da_cons (de_var 0 (pv 0)) da_nil)) (da_cons de_int da_nil))) (aCons_len (aCons_len (aCons_len aNil_len))))) (dg_name (i := 4) sc_law_grown.nd rfl (by first | exact Or.inl rfl | exact Or.inr rfl)) (dss_cons (ds_mutA (i := 5) sc_law_grown.nd rfl (by first | exact Or.inl rfl | exact Or.inr rfl) (dm_mut PySem.F.slot_list_pop PySem.F.type_list_pop mt_popAt mut_popAt (pv 3) (da_cons (de_pub (de_op op_mod od_mod (de_var 4 (pv 4)) (de_callB call_lenA cd_len (by rfl) (T.free_len) (by decide +kernel) (da_cons (de_var 3 (pv 3)) da_nil)))) da_nil) (fun t ht => pe_bm PySem.F.plainAttrs_list PySem.F.slot_list_pop PySem.F.type_list_pop mt_popAt (pv 3) ht)))
    (dss_cons (ds_if (dt_cmp (op_eqA hr.units) od_eq (de_op op_mod od_mod (de_op op_fdivW od_div (de_var 4 (pv 4)) de_int) de_int) de_int (nomark _)) (dss_one ds_continue) dss_nil)
    (dss_one (ds_if (dt_pub (DW.dt (dw_and (dt_cmp (op_eqA hr.units) od_eq (de_op op_mod od_mod (de_op op_fdivW od_div (de_var 4 (pv 4)) de_int) de_int) de_int (nomark _)) (dw_and1 (dt_cmp (op_cmpA (op := .Gt) rfl hr.units) od_cmp (de_callB call_lenA cd_len (by rfl) (T.free_len) (by decide +kernel) (da_cons (de_var 2 (pv 2)) da_nil)) de_int (nomark _)))))) (dss_one (ds_mut (dm_mutM mut_append (dam_one (dm_kn (kn_law_flip T) (hr.mono (by decide)) (by rfl) hx (dam_cons (dm_mut0 mut_pop (pe_bm0 PySem.F.plainAttrs_list PySem.F.slot_list_pop PySem.F.type_list_pop mt_pop (pv 2))) (da_cons (de_var 5 (pv 5)) da_nil)) (amCons_len (aCons_len aNil_len)))) (fun t ht => pe_bm PySem.F.plainAttrs_list PySem.F.slot_list_append PySem.F.type_list_append mt_append (pv 2) ht)))) (dss_one (ds_mut (dm_mut PySem.F.slot_list_append PySem.F.type_list_append mt_append mut_append (pv 2) (da_cons (de_pub (de_kn (kn_law_flip T) (hr.mono (by decide)) (by rfl) hx (da_cons (de_ix (de_var 2 (pv 2)) (de_op op_mod od_mod (de_op op_fdivW od_div (de_var 4 (pv 4)) de_int) (de_callB call_lenA cd_len (by rfl) (T.free_len) (by decide +kernel) (da_cons (de_var 2 (pv 2)) da_nil))) (fun _ _ => rfl)) (da_cons (de_var 5 (pv 5)) da_nil)) (aCons_len (aCons_len aNil_len)))) da_nil) (fun t ht => pe_bm PySem.F.plainAttrs_list PySem.F.slot_list_append PySem.F.type_list_append mt_append (pv 2) ht)))))))) bN_ne)
    (dss_one (ds_retV 2 (pv 2))))))
theorem kn_law_founder (T : Tx w K mg) : Knows P w K mg base "_law_founder" 2 ["_law_cell_here", "_law_many"] f_law_founder :=
  kn_mk (st := s_law_founder) (T.says.def_ 44 rfl) sc_law_founder T.glo_law_founder (fun _ _ _ _ _ _ us hl => match us, hl with | [_, _], _ => rfl) fun cdv A outer s H E hr hx => by
  have hp := owns_cx (P := P) (w := w) (K := K) (mg := mg) (base := base) (N := N_law_founder) (qual := "_law_founder") (scope := defScope s_law_founder) (f := (He.ga K "_law_founder")) (cdv := cdv) (A := A) (outer := outer) (s := s) (H := H) (E := E)
  have tk := takes_cx (P := P) (w := w) (K := K) (mg := mg) (base := base) (N := N_law_founder) (qual := "_law_founder") (scope := defScope s_law_founder) (f := (He.ga K "_law_founder")) (cdv := cdv) (A := A) (outer := outer) (s := s) (H := H) (E := E)
  exact (dss_one (ds_ret (de_callTy call_tuple_of cd_tuple (by rfl) (T.free_tuple) (by decide +kernel) (da_cons (de_kn (kn_law_row T) (hr.mono (by decide)) (by rfl) hx (da_cons (de_var 0 (pv 0)) (da_cons (de_var 1 (pv 1)) (da_cons de_int da_nil))) (aCons_len (aCons_len (aCons_len aNil_len)))) da_nil))))
theorem kn_law_true (T : Tx w K mg) : Knows P w K mg base "_law_true" 3 ["_law_script", "_law_at", "_law_marks_here", "_law_folk"] f_law_true :=
  kn_mk (st := s_law_true) (T.says.def_ 45 rfl) sc_law_true T.glo_law_true (fun _ _ _ _ _ _ us hl => match us, hl with | [_, _, _, _], _ => rfl) fun cdv A outer s H E hr hx => by
  have hp := owns_cx (P := P) (w := w) (K := K) (mg := mg) (base := base) (N := N_law_true) (qual := "_law_true") (scope := defScope s_law_true) (f := (He.ga K "_law_true")) (cdv := cdv) (A := A) (outer := outer) (s := s) (H := H) (E := E)
  have tk := takes_cx (P := P) (w := w) (K := K) (mg := mg) (base := base) (N := N_law_true) (qual := "_law_true") (scope := defScope s_law_true) (f := (He.ga K "_law_true")) (cdv := cdv) (A := A) (outer := outer) (s := s) (H := H) (E := E)
  exact (dss_cons (ds_set (i := 4) sc_law_true.nd rfl (by first | exact Or.inl rfl | exact Or.inr rfl) (de_kn (kn_law_cell T) (hr.mono (by decide)) (by rfl) hx (da_cons (de_var 0 (pv 0)) (da_cons (de_var 1 (pv 1)) da_nil)) (aCons_len (aCons_len aNil_len))))
    (dss_cons (ds_set (i := 5) sc_law_true.nd rfl (by first | exact Or.inl rfl | exact Or.inr rfl) (de_op op_addA od_add de_int (de_op op_mod od_mod (de_var 4 (pv 4)) (de_var 2 (pv 2)))))
    (dss_cons (ds_set (i := 6) sc_law_true.nd rfl (by first | exact Or.inl rfl | exact Or.inr rfl) (de_kn (kn_law_founder T) (hr.mono (by decide)) (by rfl) hx (da_cons (de_kn (kn_law_cell T) (hr.mono (by decide)) (by rfl) hx (da_cons (de_var 0 (pv 0)) (da_cons (de_op op_addA od_add (de_var 1 (pv 1)) de_int) da_nil)) (aCons_len (aCons_len aNil_len))) (da_cons (de_var 5 (pv 5)) da_nil)) (aCons_len (aCons_len aNil_len))))
    (dss_cons (ds_set (i := 7) sc_law_true.nd rfl (by first | exact Or.inl rfl | exact Or.inr rfl) (de_kn (kn_law_grown T) (hr.mono (by decide)) (by rfl) hx (da_cons (de_var 6 (pv 6)) (da_cons (de_kn (kn_law_cell T) (hr.mono (by decide)) (by rfl) hx (da_cons (de_var 0 (pv 0)) (da_cons (de_op op_addA od_add (de_var 1 (pv 1)) de_int) da_nil)) (aCons_len (aCons_len aNil_len))) da_nil)) (aCons_len (aCons_len aNil_len))))
    (dss_cons (ds_set (i := 8) sc_law_true.nd rfl (by first | exact Or.inl rfl | exact Or.inr rfl) (de_lst da_nil))
    (dss_cons (ds_for hp rfl (di_any (de_kn (kn_law_row T) (hr.mono (by decide)) (by rfl) hx (da_cons (de_kn (kn_law_cell T) (hr.mono (by decide)) (by rfl) hx (da_cons (de_var 0 (pv 0)) (da_cons (de_op op_addA od_add (de_var 1 (pv 1)) de_int) da_nil)) (aCons_len (aCons_len aNil_len))) (da_cons (de_op op_mod od_mod (de_op op_fdivW od_div (de_var 4 (pv 4)) de_int) (de_op op_addA od_add (de_var 3 (pv 3)) de_int)) (da_cons de_int da_nil))) (aCons_len (aCons_len (aCons_len aNil_len))))) (dg_name (i := 9) sc_law_true.nd rfl (by first | exact Or.inl rfl | exact Or.inr rfl)) (dss_cons (ds_fix [7] (ds_set (i := 10) sc_law_true.nd rfl (by first | exact Or.inl rfl | exact Or.inr rfl) (de_ix (de_var 7 (pv 7)) (de_op op_mod od_mod (de_var 9 (pv 9)) (de_callB call_lenA cd_len (by rfl) (T.free_len) (by decide +kernel) (da_cons (de_var 7 (pv 7)) da_nil))) (fun _ _ => rfl))))
    (dss_one (ds_fix [7] (ds_mut (dm_mut PySem.F.slot_list_append PySem.F.type_list_append mt_append mut_append (pv 8) (da_cons (de_kn (kn_law_pair_up T) (hr.mono (by decide)) (by rfl) hx (da_cons (de_var 10 (pv 10)) (da_cons (de_ix (de_var 7 (pv 7)) (de_op op_mod od_mod (de_op op_fdivW od_div (de_var 9 (pv 9)) de_int) (de_callB call_lenA cd_len (by rfl) (T.free_len) (by decide +kernel) (da_cons (de_var 7 (pv 7)) da_nil))) (fun _ _ => rfl)) da_nil)) (aCons_len (aCons_len aNil_len))) da_nil) (fun t ht => pe_bm PySem.F.plainAttrs_list PySem.F.slot_list_append PySem.F.type_list_append mt_append (pv 8) ht)))))) bN_ne)
    (dss_one (ds_fix [8] (ds_ret (de_tup (da_cons (de_var 6 (pv 6)) (da_cons (de_var 8 (pv 8)) da_nil))))))))))))
theorem kn_law_company (T : Tx w K mg) : Knows P w K mg base "_law_company" 4 ["_law_script", "_law_at", "_law_marks_here", "_law_folk"] f_law_company :=
  kn_mk (st := s_law_company) (T.says.def_ 46 rfl) sc_law_company T.glo_law_company (fun _ _ _ _ _ _ us hl => match us, hl with | [_, _, _, _], _ => rfl) fun cdv A outer s H E hr hx => by
  have hp := owns_cx (P := P) (w := w) (K := K) (mg := mg) (base := base) (N := N_law_company) (qual := "_law_company") (scope := defScope s_law_company) (f := (He.ga K "_law_company")) (cdv := cdv) (A := A) (outer := outer) (s := s) (H := H) (E := E)
  have tk := takes_cx (P := P) (w := w) (K := K) (mg := mg) (base := base) (N := N_law_company) (qual := "_law_company") (scope := defScope s_law_company) (f := (He.ga K "_law_company")) (cdv := cdv) (A := A) (outer := outer) (s := s) (H := H) (E := E)
  exact (dss_cons (ds_asg (de_kn (kn_law_true T) (hr.mono (by decide)) (by rfl) hx (da_cons (de_var 0 (pv 0)) (da_cons (de_var 1 (pv 1)) (da_cons (de_var 2 (pv 2)) (da_cons (de_var 3 (pv 3)) da_nil)))) (aCons_len (aCons_len (aCons_len (aCons_len aNil_len))))) (dg_tup rfl (dgs_cons (dg_name (i := 6) sc_law_company.nd rfl (by first | exact Or.inl rfl | exact Or.inr rfl)) (dgs_cons (dg_name (i := 7) sc_law_company.nd rfl (by first | exact Or.inl rfl | exact Or.inr rfl)) dgs_nil))) (hb := (bTup_ne (bCons_ne bN_ne (bCons_ne bN_ne bNil_ne)))))
    (dss_cons (by first | exact ds_set (i := 4) sc_law_company.nd rfl (by first | exact Or.inl rfl | exact Or.inr rfl) (de_lc (own := [("_law_pair", 8)]) (sl := [8]) rfl sc_law_company.nd (di_any (de_var 7 (pv 7))) (blkOk_by (N := N_law_company) (sc := defScope s_law_company) (by decide +kernel)) (by decide) (fun _ _ _ _ _ => (dg_name (i := 8) sc_law_company.nd rfl (by first | exact Or.inl rfl | exact Or.inr rfl))) (fun _ _ _ _ _ => dts_nil) (fun _ _ _ _ _ => (de_kn (kn_law_seen T) (hr.mono (by decide)) (by rfl) passN (da_cons (de_ix (de_var 8 (pv 8)) de_int (fun _ _ => rfl)) (da_cons (de_ix (de_var 8 (pv 8)) de_int (fun _ _ => rfl)) da_nil)) (aCons_len (aCons_len aNil_len))))) | exact ds_setLc (i := 4) (own := [("_law_pair", 8)]) (sl := [8]) rfl sc_law_company.nd rfl rfl (sw_true rfl rfl rfl (by decide +kernel)) (di_any (de_var 7 (pv 7))) (blkOk_by (N := N_law_company) (sc := defScope s_law_company) (by decide +kernel)) (by decide) (fun _ _ _ _ _ => (dg_name (i := 8) sc_law_company.nd rfl (by first | exact Or.inl rfl | exact Or.inr rfl))) (fun _ _ _ _ _ => dts_nil) (fun _ _ _ _ _ => (de_kn (kn_law_seen T) (hr.mono (by decide)) (by rfl) passN (da_cons (de_ix (de_var 8 (pv 8)) de_int (fun _ _ => rfl)) (da_cons (de_ix (de_var 8 (pv 8)) de_int (fun _ _ => rfl)) da_nil)) (aCons_len (aCons_len aNil_len)))))
    (dss_cons (ds_fix [4] (ds_set (i := 4) sc_law_company.nd rfl (by first | exact Or.inl rfl | exact Or.inr rfl) (de_kn (kn_law_spoilt T) (hr.mono (by decide)) (by rfl) hx (da_cons (de_var 4 (pv 4)) (da_cons (de_var 0 (pv 0)) (da_cons (de_var 1 (pv 1)) da_nil))) (aCons_len (aCons_len (aCons_len aNil_len))))))
    (dss_cons (ds_set (i := 5) sc_law_company.nd rfl (by first | exact Or.inl rfl | exact Or.inr rfl) (de_kn (kn_law_cell T) (hr.mono (by decide)) (by rfl) hx (da_cons (de_var 0 (pv 0)) (da_cons (de_var 1 (pv 1)) da_nil)) (aCons_len (aCons_len aNil_len))))
    (dss_one (ds_fix [4] (ds_ret (de_tup (da_cons (de_var 6 (pv 6)) (da_cons (de_lc (own := [("_law_k", 9)]) (sl := [9]) rfl sc_law_company.nd (di_rng1 (by rfl) (T.free_range) (da_cons (de_callB call_lenA cd_len (by rfl) (T.free_len) (by decide +kernel) (da_cons (de_var 4 (pv 4)) da_nil)) da_nil)) (blkOk_by (N := N_law_company) (sc := defScope s_law_company) (by decide +kernel)) (by decide) (fun _ _ _ _ _ => (dg_name (i := 9) sc_law_company.nd rfl (by first | exact Or.inl rfl | exact Or.inr rfl))) (fun _ _ _ _ _ => dts_nil) (fun _ _ _ _ _ => (de_tup (da_cons (de_kn (kn_law_name T) (hr.mono (by decide)) (by rfl) passN (da_cons (de_op op_fdivW od_div (de_var 5 (pv 5)) de_int) (da_cons (de_var 9 (pv 9)) da_nil)) (aCons_len (aCons_len aNil_len))) (da_cons (de_ix (de_var 4 (pv 4)) (de_var 9 (pv 9)) (fun _ _ => rfl)) da_nil))))) da_nil))))))))))
theorem d_law (T : Tx w K mg) {f : Addr} (cdv : Value) (A : Around) (outer : List PySem.Env) (s : Shared) (H : Hp) (E : XK) (hr : Room 8 (A.deeper (envOfC "law" (defScope s_law_k15) s.heap.objs.size f cdv))) :
    DSs (cxOf CX0 P w K mg base N_law_k15 "law" (defScope s_law_k15) f cdv A outer s H E).nox E0 (defBody s_law_k15) o_law_k15 := by
  have hp := PassesOwn.never (M := model P w) (A := (cxOf CX0 P w K mg base N_law_k15 "law" (defScope s_law_k15) f cdv A outer s H E).nox.A) (env := (cxOf CX0 P w K mg base N_law_k15 "law" (defScope s_law_k15) f cdv A outer s H E).nox.env)
  have hx := passN (X := (cxOf CX0 P w K mg base N_law_k15 "law" (defScope s_law_k15) f cdv A outer s H E).nox)
  exact (dss_cons (ds_asg (de_kn (kn_law_company T) (hr.mono (by decide)) (by rfl) hx (da_cons (de_var 0 (pv 0)) (da_cons de_int (da_cons de_int (da_cons de_int da_nil)))) (aCons_len (aCons_len (aCons_len (aCons_len aNil_len))))) (dg_tup rfl (dgs_cons (dg_name (i := 6) sc_law_k15.nd rfl (by first | exact Or.inl rfl | exact Or.inr rfl)) (dgs_cons (dg_name (i := 7) sc_law_k15.nd rfl (by first | exact Or.inl rfl | exact Or.inr rfl)) dgs_nil))) (hb := (bTup_ne (bCons_ne bN_ne (bCons_ne bN_ne bNil_ne)))))
    (dss_cons (ds_set (i := 1) sc_law_k15.nd rfl (by first | exact Or.inl rfl | exact Or.inr rfl) (de_lst da_nil))
    (dss_cons (ds_set (i := 2) sc_law_k15.nd rfl (by first | exact Or.inl rfl | exact Or.inr rfl) (de_kn (kn_law_cell T) (hr.mono (by decide)) (by rfl) hx (da_cons (de_var 0 (pv 0)) (da_cons de_int da_nil)) (aCons_len (aCons_len aNil_len))))
    (dss_cons (ds_if (dt_cmp (op_eqA hr.units) od_eq (de_op op_mod od_mod (de_var 2 (pv 2)) de_int) de_int (nomark _)) (dss_one (ds_set (i := 1) sc_law_k15.nd rfl (by first | exact Or.inl rfl | exact Or.inr rfl) (de_kn (kn_law_sayings T) (hr.mono (by decide)) (by rfl) hx (da_cons (de_var 7 (pv 7)) (da_cons (de_op op_fdivW od_div (de_var 2 (pv 2)) de_int) da_nil)) (aCons_len (aCons_len aNil_len))))) dss_nil)
    (dss_cons (ds_fix [1] (ds_if (DW.dt (dw_and (dt_cmp (op_eqA hr.units) od_eq (de_op op_mod od_mod (de_var 2 (pv 2)) de_int) de_int (nomark _)) (dw_and1 (dt_cmp (op_cmpA (op := .Gt) rfl hr.units) od_cmp (de_callB call_lenA cd_len (by rfl) (T.free_len) (by decide +kernel) (da_cons (de_var 1 (pv 1)) da_nil)) de_int (nomark _))))) (dss_cons (ds_fix [1] (ds_asg (de_ix (de_var 1 (pv 1)) de_int (fun _ _ => rfl)) (dg_tup rfl (dgs_cons (dg_name (i := 8) sc_law_k15.nd rfl (by first | exact Or.inl rfl | exact Or.inr rfl)) (dgs_cons (dg_name (i := 10) sc_law_k15.nd rfl (by first | exact Or.inl rfl | exact Or.inr rfl)) (dgs_cons (dg_name (i := 11) sc_law_k15.nd rfl (by first | exact Or.inl rfl | exact Or.inr rfl)) (dgs_cons (dg_name (i := 12) sc_law_k15.nd rfl (by first | exact Or.inl rfl | exact Or.inr rfl)) dgs_nil))))) (hb := (bTup_ne (bCons_ne bN_ne (bCons_ne bN_ne (bCons_ne bN_ne (bCons_ne bN_ne bNil_ne))))))))
    (dss_one (ds_fix [1] (ds_set (i := 1) sc_law_k15.nd rfl (by first | exact Or.inl rfl | exact Or.inr rfl) (de_op op_addA od_add (de_lst (da_cons (de_tup (da_cons (de_var 8 (pv 8)) (da_cons (de_var 10 (pv 10)) (da_cons (de_var 11 (pv 11)) (da_cons (de_if (dt_cmp (op_eqA hr.units) od_eq (de_var 12 (pv 12)) de_str (nomark _)) de_str de_str) da_nil))))) da_nil)) (de_sl (de_var 1 (pv 1)) (do_some de_int) do_none)))))) dss_nil))
    (dss_cons (ds_fix [1] (ds_set (i := 3) sc_law_k15.nd rfl (by first | exact Or.inl rfl | exact Or.inr rfl) (de_new (knI_Joints_init__ T) (hr.mono (by decide)) (by rfl) hx (da_cons (de_var 6 (pv 6)) (da_cons (de_callTy call_list_of cd_list (by rfl) (T.free_list) (by decide +kernel) (da_cons (de_var 7 (pv 7)) da_nil)) (da_cons (de_callTy call_list_of cd_list (by rfl) (T.free_list) (by decide +kernel) (da_cons (de_var 1 (pv 1)) da_nil)) da_nil))) (fun ρ ds h => congrArg Nat.succ ((aCons_len (aCons_len (aCons_len aNil_len))) ρ ds h)))))
    (dss_cons (ds_set (i := 4) sc_law_k15.nd rfl (by first | exact Or.inl rfl | exact Or.inr rfl) (de_meth0 (knM_Joints_bar_of T) (hr.mono (by decide)) hx (de_var 3 (pv 3)) rfl (fun po hm F b c => pe_meth0 po c hm F (hr.mono (by decide)) b .nil hx)))
    (dss_cons (ds_if (dt_cmp op_isN od_isN (de_var 4 (pv 4)) de_non (nomark _)) (dss_one (ds_ret (de_cmp (op_cmpA (op := .Gt) rfl hr.units) od_cmp (de_meth0 (knM_Joints_many_ways T) (hr.mono (by decide)) hx (de_var 3 (pv 3)) rfl (fun po hm F b c => pe_meth0 po c hm F (hr.mono (by decide)) b .nil hx)) de_int (nomark _)))) dss_nil)
    (dss_cons (ds_set (i := 5) sc_law_k15.nd rfl (by first | exact Or.inl rfl | exact Or.inr rfl) de_newK)
    (dss_cons (ds_for hp rfl (di_any (de_var 7 (pv 7))) (dg_tup rfl (dgs_cons (dg_name (i := 8) sc_law_k15.nd rfl (by first | exact Or.inl rfl | exact Or.inr rfl)) (dgs_cons (dg_name (i := 9) sc_law_k15.nd rfl (by first | exact Or.inl rfl | exact Or.inr rfl)) dgs_nil))) (dss_one (ds_putK (i := 5) (room2 hr) (de_kn (kn_law_against T) (hr.mono (by decide)) (by rfl) hx (da_cons (de_var 9 (pv 9)) (da_cons (de_var 6 (pv 6)) da_nil)) (aCons_len (aCons_len aNil_len))) (pv 5) (de_var 8 (pv 8)))) (bTup_ne (bCons_ne bN_ne (bCons_ne bN_ne bNil_ne))))
    (dss_cons (ds_if (DW.dt (dw_or (dt_cmp (op_neA hr.units) od_ne (de_meth0 (knM_Joints_many_ways T) (hr.mono (by decide)) hx (de_var 3 (pv 3)) rfl (fun po hm F b c => pe_meth0 po c hm F (hr.mono (by decide)) b .nil hx)) de_int (nomark _)) (dw_or (dt_not (dt_val (de_isi (by rfl) (T.free_isinstance) (by rfl) (T.free_tuple) (by decide +kernel) (de_var 4 (pv 4))))) (dw_or1 (dt_cmp (op_cmpA (op := .Lt) rfl hr.units) od_cmp (de_callB call_lenA cd_len (by rfl) (T.free_len) (by decide +kernel) (da_cons (de_var 4 (pv 4)) da_nil)) de_int (nomark _)))))) (dss_one (ds_ret de_bl)) dss_nil)
    (dss_cons (ds_if (dt_cmp (op_eqA hr.units) od_eq (de_ix (de_var 4 (pv 4)) de_int (fun _ _ => rfl)) de_str (nomark _)) (dss_one (ds_fix [5] (ds_ret (de_kn (kn_law_clash T) (hr.mono (by decide)) (by rfl) hx (da_cons (de_var 5 (pv 5)) (da_cons (de_var 4 (pv 4)) (da_cons (de_callB call_lenA cd_len (by rfl) (T.free_len) (by decide +kernel) (da_cons (de_var 6 (pv 6)) da_nil)) da_nil))) (aCons_len (aCons_len (aCons_len aNil_len))))))) dss_nil)
    (dss_one (ds_fix [1, 5] (ds_ret (de_and (de_cmp (op_eqA hr.units) od_eq (de_ix (de_var 4 (pv 4)) de_int (fun _ _ => rfl)) de_str (nomark _)) (de_one (de_kn (kn_law_odd T) (hr.mono (by decide)) (by rfl) hx (da_cons (de_var 5 (pv 5)) (da_cons (de_var 1 (pv 1)) (da_cons (de_var 4 (pv 4)) (da_cons (de_callB call_lenA cd_len (by rfl) (T.free_len) (by decide +kernel) (da_cons (de_var 6 (pv 6)) da_nil)) da_nil)))) (aCons_len (aCons_len (aCons_len (aCons_len aNil_len))))))))))))))))))))))
abbrev Rw : PySem.W.OpenRow := PySem.W.OpenLaw.row PySem.Challenge.rw_unmix_k15_bars_walked
abbrev hkw : PySem.W.Hook := hookX 6 fcs fns tbs exC
def obw (s : PySem.W.SharedT) : AlX := obsX 6 fcs fns tbs exC (HandSHeadRun.getT s)
theorem obw_eq (s : PySem.W.SharedT) : obw s = hkw.obs s.abs := obsX_eq (HandSHeadRun.getT_eq s)
theorem runA (w : World) : HandSHeadRun.RunEq Rw (PySem.W.view Rw.prog [51]) hkw obw 6000 lnames (w.withFollow "special-get-raises" false) := by
  intro os
  kernel_rfl
theorem runB (w : World) : HandSHeadRun.RunEq Rw (PySem.W.view Rw.prog [51]) hkw obw 6000 lnames (w.withFollow "special-get-raises" true) := by
  intro os
  kernel_rfl
theorem run (w : World) : HandSHeadRun.RunEq Rw (PySem.W.view Rw.prog [51]) hkw obw 6000 lnames w := PySem.W.byRow2 "special-get-raises" runA runB w
/-- the promise of the law's def -/
def spL (K : PySem.W.Frag) : Sp := fun vs H Q _ => spD K 1 f_law_k15 vs H Q E0
theorem facts {P : Program} {w : World} {K : PySem.W.Frag} {h : Heap} {mg : Str → Option Value} {f : Addr} (X : K.In h) (G : h.Ns mainGlobals mg) (hfa : mg ("law" : Str) = some (.ref f)) (c : He.SaysT fcs fns tbs w K) (c2 : exC K = true) :
    ∃ fd : FuncData, (∀ (s : Shared) (v : Value), BindsTo s fd ⟨[v], []⟩ [("_law_script", v)]) ∧ ∀ base : Heap, K.In base → base.Ns mainGlobals mg → FnOk P w K mg base CX0 9 f fd ["_law_script"] (spL K) := by
  have T : Tx w K mg := ⟨c, c2, h, X, G⟩
  obtain ⟨fd, F⟩ := c.d.def_ 47 (d := dd ("law", none) "law" "law" s_law_k15) rfl
  have e := hfa.symm.trans T.glo_law
  cases e
  have b := FunD.bindsA (ps := ["_law_script"]) F fun _ _ _ _ _ _ us hl => match us, hl with | [_], _ => rfl
  exact ⟨fd, fun s v => b s [v] rfl, fun base _ _ => law_mk (N := N_law_k15) (ps := ["_law_script"]) F sc_law_k15 fun cdv A outer s H E hr => d_law T cdv A outer s H E hr⟩
/-- the law by data -/
def Good : Prop := ∀ ns : List Int, ns.length ≤ 63 → f_law_k15 [.dict [(.none, .list (ns.map PyData.int))]] = .ok (.dat (.bool true))
theorem good_sp (hgood : Good) {K : PySem.W.Frag} {H : Hp} {a : Addr} {ns : List Int} (hl : ns.length ≤ 63) (hS : SqL K H a (ns.map V.int)) : spL K [.ref a] H (fun v _ => v = .bl true) fun _ _ _ => False := by
  refine ⟨rfl, _, H, .refl H, .cons (.scr hS) .nil, ?_⟩
  rw [hgood ns hl]
  intro v B' H' g r
  cases r
  rfl
end Dl
open PySem PySem.W PySem.Calls PyProof.Rows
set_option maxHeartbeats 0 in
theorem Dl.law_holds (hgood : Dl.Good) : PySem.Challenge.rw_unmix_k15_bars_walked.Holds := by
  w_on; o_law
  refine HandSHeadRun.head_any (r := OpenLaw.row PySem.Challenge.rw_unmix_k15_bars_walked) (q := view (OpenLaw.row PySem.Challenge.rw_unmix_k15_bars_walked).prog [51]) (H := Dl.hkw) (ob := Dl.obw) (M := 6000) (loose := Dl.lnames) (d := HandSHeadRun.topDef (OpenLaw.row PySem.Challenge.rw_unmix_k15_bars_walked).prog 51) (kwd := []) Dl.obw_eq
    (by kernel_rfl) (fun s => by kernel_rfl) Dl.run (by kernel_rfl) (by kernel_rfl) (by kernel_rfl) (by rfl) (by first | assumption | decide +kernel) (by decide +kernel) ⟨rfl, rfl, rfl, rfl, rfl, by decide +kernel⟩ ?hw ?hc
  case hw => w_witness2
  case hc =>
    refine L2.walk_ofE (l := PySem.Challenge.rw_unmix_k15_bars_walked) (n := 63) (k := 9) (x := "_law_script") (CX := L2.CX0) rfl (by decide) (by kernel_rfl) ⟨rfl, by decide, by decide⟩ ?F (fun _ _ _ _ z => z)
    intro w mg fa h Y G hmg0
    obtain ⟨K, KX, c, c2⟩ := Y
    have hmg : mg ("law" : PySem.Str) = some (.ref fa) := by
      have e : (HandSHeadRun.topDef (OpenLaw.row PySem.Challenge.rw_unmix_k15_bars_walked).prog 51).name = ("law" : PySem.Str) := by kernel_rfl
      rw [← e]
      exact hmg0
    obtain ⟨fd, hb, hF⟩ := Dl.facts (P := (PySem.Challenge.rw_unmix_k15_bars_walked).prog) (w := w) KX G hmg c c2
    exact ⟨K, fd, Dl.spL K, KX, hb, fun H a ns hl _ hS => Dl.good_sp hgood hl hS, hF⟩
theorem PySem.Challenge.cw_unmix_k15_bars_walked_holds : PySem.Challenge.rw_unmix_k15_bars_walked.Holds := by
  exact Dl.law_holds fun ns _ => Dl.good ns
