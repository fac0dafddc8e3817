import PyProof.Rows.All
import Wide.All
import OpenK.AllK
import Wide.FinOn
import HandS.ForMost
import HandS.ForExc
import HandS.Lambda
import HandS.Style
import HandS.TupAny
import HandS.TupMul
import HandS.IsInst
import HandS.Codes
import KE.SortData
import KE.DataCmp
import KE.DataEq
import KE.DatumMore
import HandS.Zip
import HandS.ExcOwn
import HandS.WordsExc
import HandS.ExcInit
import HandS.ExcSuper
import KE.KExcSuper
import HandS.ExcField
import KE.KStateDown
import HandS.Ends
import HandS.Defaults
import HandS.EndTab
import HandS.Head0
import HandS.Head1
import HandS.Head2
import HandS.HeadEnd
import HandS.HeadHook1
import HandS.HeadHook2
import HandS.HeadHook3
import HandS.HeadHook4
import HandS.HeadWalk
import HandS.SetFor
import HandS.RevTup
import HandS.Iter
import KE.GoesEnum
import PySem.Challenge.RW_tonnewise_k37_whole_inspections
set_option Elab.async false
set_option linter.all false
set_option maxRecDepth 100000
set_option maxHeartbeats 4000000
/-! A layer of plain data over the hand layer: what slots hold is told as data, a def is a function on data. -/
namespace DL
open PySem PySem.Spec PyProof.Rows L2
abbrev D := PyData
abbrev Frg := PySem.W.Frag
def keyD : Key → D
  | .inl i => .int i
  | .inr s => .str s
/-! ### what stands for a datum, by frozen objects -/
mutual
inductive Rp (K : Frg) (F : Hp) : D → V → Prop
  | non : Rp K F .none .non
  | bl (b : Bool) : Rp K F (.bool b) (.bl b)
  | int (i : Int) : Rp K F (.int i) (.int i)
  | str (x : Str) : Rp K F (.str x) (.str x)
  | lst {a : Addr} {xs : List V} {ds : List D} : F a = some (.lst xs) → Rps K F ds xs → Rp K F (.list ds) (.ref a)
  | tup {a : Addr} {xs : List V} {ds : List D} : SqT K F a xs → Rps K F ds xs → Rp K F (.tuple ds) (.ref a)
  | dct {a : Addr} {ws : List (Key × V)} {kvs : List (D × D)} : F a = some (.dK ws) → Rpk K F kvs ws → Rp K F (.dict kvs) (.ref a)
inductive Rps (K : Frg) (F : Hp) : List D → List V → Prop
  | nil : Rps K F [] []
  | cons {d : D} {v : V} {ds : List D} {vs : List V} : Rp K F d v → Rps K F ds vs → Rps K F (d :: ds) (v :: vs)
inductive Rpk (K : Frg) (F : Hp) : List (D × D) → List (Key × V) → Prop
  | nil : Rpk K F [] []
  | cons {k : Key} {d : D} {v : V} {ds : List (D × D)} {vs : List (Key × V)} : Rp K F d v → Rpk K F ds vs → Rpk K F ((keyD k, d) :: ds) ((k, v) :: vs)
end
theorem sqt_same {K : Frg} {H H' : Hp} {a : Addr} {xs : List V} (e : Same H H') (h : SqT K H a xs) : SqT K H' a xs := by
  rcases h with (h | ⟨o, h⟩) | h
  · exact .inl (.inl (e _ _ h))
  · exact .inl (.inr ⟨o, e _ _ h⟩)
  · exact .inr h
mutual
theorem Rp.mono {K : Frg} {F F' : Hp} (e : Same F F') : ∀ {d : D} {v : V}, Rp K F d v → Rp K F' d v
  | _, _, .non => .non
  | _, _, .bl b => .bl b
  | _, _, .int b => .int b
  | _, _, .str b => .str b
  | _, _, .lst h r => .lst (e _ _ h) (Rps.mono e r)
  | _, _, .tup h r => .tup (sqt_same e h) (Rps.mono e r)
  | _, _, .dct h r => .dct (e _ _ h) (Rpk.mono e r)
theorem Rps.mono {K : Frg} {F F' : Hp} (e : Same F F') : ∀ {d : List D} {v : List V}, Rps K F d v → Rps K F' d v
  | _, _, .nil => .nil
  | _, _, .cons a b => .cons (Rp.mono e a) (Rps.mono e b)
theorem Rpk.mono {K : Frg} {F F' : Hp} (e : Same F F') : ∀ {d : List (D × D)} {v : List (Key × V)}, Rpk K F d v → Rpk K F' d v
  | _, _, .nil => .nil
  | _, _, .cons a b => .cons (Rp.mono e a) (Rpk.mono e b)
end
theorem Rps.length {K : Frg} {F : Hp} : ∀ {ds : List D} {vs : List V}, Rps K F ds vs → vs.length = ds.length
  | _, _, .nil => rfl
  | _, _, .cons _ t => by rw [List.length_cons, List.length_cons, Rps.length t]
theorem Rps.get {K : Frg} {F : Hp} : ∀ {ds : List D} {vs : List V} {i : Nat} {d : D}, Rps K F ds vs → ds[i]? = some d → ∃ v, vs[i]? = some v ∧ Rp K F d v
  | _, _, _, _, .nil, h => by simp at h
  | _, _, 0, _, .cons r _, h => by
    have e := Option.some.inj h
    subst e
    exact ⟨_, rfl, r⟩
  | _, _, i + 1, _, .cons _ t, h => Rps.get (i := i) t h
theorem Rps.append {K : Frg} {F : Hp} : ∀ {ds es : List D} {vs ws : List V}, Rps K F ds vs → Rps K F es ws → Rps K F (ds ++ es) (vs ++ ws)
  | _, _, _, _, .nil, r => r
  | _, _, _, _, .cons a b, r => .cons a (Rps.append b r)
theorem Rps.set {K : Frg} {F : Hp} {d : D} {v : V} (r : Rp K F d v) : ∀ {ds : List D} {vs : List V} (i : Nat), Rps K F ds vs → Rps K F (ds.set i d) (vs.set i v)
  | _, _, _, .nil => .nil
  | _, _, 0, .cons _ t => .cons r t
  | _, _, i + 1, .cons a t => .cons a (Rps.set r i t)
theorem Rps.take {K : Frg} {F : Hp} : ∀ {ds : List D} {vs : List V} (n : Nat), Rps K F ds vs → Rps K F (ds.take n) (vs.take n)
  | _, _, 0, _ => .nil
  | _, _, _ + 1, .nil => .nil
  | _, _, n + 1, .cons a t => .cons a (Rps.take n t)
theorem Rps.drop {K : Frg} {F : Hp} : ∀ {ds : List D} {vs : List V} (n : Nat), Rps K F ds vs → Rps K F (ds.drop n) (vs.drop n)
  | _, _, 0, h => h
  | _, _, _ + 1, .nil => .nil
  | _, _, n + 1, .cons _ t => Rps.drop n t
theorem Rps.reverse {K : Frg} {F : Hp} : ∀ {ds : List D} {vs : List V}, Rps K F ds vs → Rps K F ds.reverse vs.reverse
  | _, _, .nil => .nil
  | _, _, .cons a t => by
    rw [List.reverse_cons, List.reverse_cons]
    exact (Rps.reverse t).append (.cons a .nil)
theorem Rps.ints {K : Frg} {F : Hp} : ∀ {ns : List Int} {vs : List V}, Rps K F (ns.map .int) vs → vs = ns.map .int
  | [], _, .nil => rfl
  | n :: ns, _, .cons a t => by
    have e := Rps.ints (ns := ns) t
    cases a
    rw [e]
    rfl
theorem Rps.of_ints {K : Frg} {F : Hp} : ∀ ns : List Int, Rps K F (ns.map .int) (ns.map .int)
  | [] => .nil
  | n :: ns => .cons (.int n) (Rps.of_ints ns)
/-! ### what an own object holds -/
inductive OC where
  | l (xs : List D)
  | m (kvs : List (D × D))
@[simp] def OC.toD : OC → D
  | .l xs => .list xs
  | .m kvs => .dict kvs
inductive OR (K : Frg) (F : Hp) : OC → HO → Prop
  | l {xs : List D} {vs : List V} : Rps K F xs vs → OR K F (.l xs) (.lst vs)
  | m {kvs : List (D × D)} {ws : List (Key × V)} : Rpk K F kvs ws → OR K F (.m kvs) (.dK ws)
theorem OR.mono {K : Frg} {F F' : Hp} (e : Same F F') {c : OC} {o : HO} : OR K F c o → OR K F' c o
  | .l r => .l (r.mono e)
  | .m r => .m (r.mono e)
theorem OR.ntb {K : Frg} {F : Hp} {c : OC} {o : HO} (h : OR K F c o) (ps : Array Value) : o ≠ .tbl ps := fun e => by
  subst e
  cases h
theorem OR.rp {K : Frg} {F : Hp} {c : OC} {o : HO} {p : Addr} (h : OR K F c o) (e : F p = some o) : Rp K F c.toD (.ref p) := by
  cases h with
  | l r => exact .lst e r
  | m r => exact .dct e r
/-- a slot holds a datum, an own object, or the script -/
inductive SV where
  | d (x : D)
  | o (c : OC)
  | q (ns : List Int)
abbrev SS := List (Option SV)
def SlotR (K : Frg) (F H : Hp) (a : Addr) : SV → V → Prop
  | .d x, v => Rp K F x v
  | .o c, v => v = .ref a ∧ ∃ o, H a = some o ∧ OR K F c o
  | .q ns, v => ∃ b, v = .ref b ∧ SqL K F b (ns.map V.int)
/-- tables of code objects, np: the first np slots are the parameters -/
structure Sx where
  T : List (Addr × Str)
  np : Nat
/-- the entry: the heap, what is frozen, the parameters' addresses -/
structure Dy where
  H0 : Hp
  F0 : Hp
  A0 : Nat → Addr
  O0 : Addr → Prop
/-- nothing at b, or a table -/
def NT (H : Hp) (b : Addr) : Prop := ∀ o, H b = some o → ∃ ps, o = .tbl ps
theorem NT.none {H : Hp} {b : Addr} (h : H b = Option.none) : NT H b := fun o q => by
  rw [h] at q
  cases q
structure Kp (T : List (Addr × Str)) (O : Addr → Prop) (H H' : Hp) : Prop where
  keep : ∀ b o, H b = some o → ¬ O b → (∀ ps, o ≠ .tbl ps) → H' b = some o
  dom : ∀ b, NT H' b → NT H b
structure Rel (K : Frg) (S : Sx) (Y : Dy) (F : Hp) (A : Nat → Addr) (H : Hp) (σ : L2.St) (δ : SS) : Prop where
  sub : Same F H
  ntb : ∀ b ps, F b ≠ some (.tbl ps)
  grow : Same Y.F0 F
  frs : ∀ b, F b ≠ none → Y.F0 b ≠ none ∨ NT Y.H0 b
  kp : Kp S.T Y.O0 Y.H0 H
  tabs : LamX.Tabs S.T H
  len : σ.length = δ.length
  slot : ∀ i x, δ[i]? = some (some x) → ∃ v, σ[i]? = some (some v) ∧ SlotR K F H (A i) x v
  own : ∀ i c, δ[i]? = some (some (.o c)) → F (A i) = none ∧ (i < S.np ∨ NT Y.H0 (A i))
  inj : ∀ i j c c', δ[i]? = some (some (.o c)) → δ[j]? = some (some (.o c')) → A i = A j → i = j
  pin : ∀ i, i < S.np → A i = Y.A0 i
  oadr : ∀ i c, i < S.np → δ[i]? = some (some (.o c)) → Y.O0 (A i)
  opar : ∀ a, Y.O0 a → Y.F0 a = none
def updA (A : Nat → Addr) (i : Nat) (p : Addr) : Nat → Addr := fun j => if j = i then p else A j
theorem set_some {α : Type} {l : List (Option α)} {i j : Nat} {x y : α} (h : (l.set i (some x))[j]? = some (some y)) : (j = i ∧ x = y ∧ i < l.length) ∨ (j ≠ i ∧ l[j]? = some (some y)) := by
  by_cases e : i = j
  · subst e
    by_cases hl : i < l.length
    · rw [List.getElem?_set_self hl] at h
      exact .inl ⟨rfl, by simpa using h, hl⟩
    · rw [List.getElem?_eq_none (by simpa using hl)] at h
      cases h
  · rw [List.getElem?_set_ne e] at h
    exact .inr ⟨fun z => e z.symm, h⟩
theorem set_none {α : Type} {l : List (Option α)} {i j : Nat} {y : α} (h : (l.set i none)[j]? = some (some y)) : j ≠ i ∧ l[j]? = some (some y) := by
  by_cases e : i = j
  · subst e
    by_cases hl : i < l.length
    · rw [List.getElem?_set_self hl] at h
      cases h
    · rw [List.getElem?_eq_none (by simpa using hl)] at h
      cases h
  · rw [List.getElem?_set_ne e] at h
    exact ⟨fun z => e z.symm, h⟩
section
variable {K : Frg} {S : Sx} {Y : Dy} {F : Hp} {A : Nat → Addr} {H : Hp} {σ : L2.St} {δ : SS}
theorem Kp.refl (T : List (Addr × Str)) (O : Addr → Prop) (H : Hp) : Kp T O H H := ⟨fun _ _ h _ _ => h, fun _ h => h⟩
theorem SlotR.mono {F' H' : Hp} {a : Addr} {x : SV} {v : V} (e : Same F F') (k : ∀ c o, x = .o c → H a = some o → H' a = some o) (h : SlotR K F H a x v) : SlotR K F' H' a x v := by
  cases x with
  | d x => exact Rp.mono e h
  | o c =>
    obtain ⟨e1, o, e2, r⟩ := h
    exact ⟨e1, o, k c o rfl e2, r.mono e⟩
  | q ns =>
    obtain ⟨b, e1, r⟩ := h
    exact ⟨b, e1, e.seq r⟩
theorem tabs_laid {T : List (Addr × Str)} {p : Addr} {o : HO} (h : LamX.Tabs T H) (hp : H p = none) : LamX.Tabs T (upd H p o) := h.ext fun b u q => by
  rw [upd_ne (ne_of_none q hp)]
  exact q
theorem kp_laid {T : List (Addr × Str)} {O : Addr → Prop} {H0 : Hp} {p : Addr} {o : HO} (h : Kp T O H0 H) (hp : H p = none) : Kp T O H0 (upd H p o) := by
  refine ⟨fun b u q n t => ?_, fun b q => h.dom b ?_⟩
  · have := h.keep b u q n t
    rw [upd_ne (ne_of_none this hp)]
    exact this
  · by_cases e : b = p
    · rw [e]
      exact .none hp
    · exact fun o z => q o (by rw [upd_ne e]; exact z)
/-- the slot i takes a datum -/
theorem Rel.setD (R : Rel K S Y F A H σ δ) {i : Nat} {d : D} {v : V} (r : Rp K F d v) : Rel K S Y F A H (σ.set i (some v)) (δ.set i (some (.d d))) := by
  refine ⟨R.sub, R.ntb, R.grow, R.frs, R.kp, R.tabs, by simpa using R.len, fun j x h => ?_, fun j c h => ?_, fun j k c c' h1 h2 => ?_, R.pin, fun j c hj h => ?_, R.opar⟩
  · rcases set_some h with ⟨rfl, rfl, hl⟩ | ⟨ne, h⟩
    · exact ⟨v, List.getElem?_set_self (by rw [R.len]; exact hl), r⟩
    · obtain ⟨w, h1, h2⟩ := R.slot j x h
      exact ⟨w, by rw [List.getElem?_set_ne (Ne.symm ne)]; exact h1, h2⟩
  · rcases set_some h with ⟨_, e, _⟩ | ⟨_, h⟩
    · cases e
    · exact R.own j c h
  · rcases set_some h1 with ⟨_, e, _⟩ | ⟨_, h1⟩
    · cases e
    · rcases set_some h2 with ⟨_, e, _⟩ | ⟨_, h2⟩
      · cases e
      · exact R.inj j k c c' h1 h2
  · rcases set_some h with ⟨_, e, _⟩ | ⟨_, h⟩
    · cases e
    · exact R.oadr j c hj h
/-- the slot i is forgotten -/
theorem Rel.drop (R : Rel K S Y F A H σ δ) (i : Nat) : Rel K S Y F A H σ (δ.set i none) := by
  refine ⟨R.sub, R.ntb, R.grow, R.frs, R.kp, R.tabs, by simpa using R.len, fun j x h => R.slot j x (set_none h).2, fun j c h => R.own j c (set_none h).2,
    fun j k c c' h1 h2 => R.inj j k c c' (set_none h1).2 (set_none h2).2, R.pin, fun j c hj h => R.oadr j c hj (set_none h).2, R.opar⟩
/-- tables may grow -/
theorem Rel.extN (R : Rel K S Y F A H σ δ) {H1 : Hp} (e : LamX.ExtN H H1) (t : LamX.Tabs S.T H1) : Rel K S Y F A H1 σ δ := by
  refine ⟨fun b u q => e b u (R.sub b u q) fun ps z => R.ntb b ps (by rw [← z]; exact q), R.ntb, R.grow, R.frs, ⟨fun b o q n nt => e b o (R.kp.keep b o q n nt) nt, fun b q => R.kp.dom b fun o z => ?_⟩, t, R.len, fun i x h => ?_, R.own, R.inj, R.pin, R.oadr, R.opar⟩
  · by_cases y : ∃ ps, o = .tbl ps
    · exact y
    · exact q o (e b o z fun ps w => y ⟨ps, w⟩)
  · obtain ⟨v, h1, h2⟩ := R.slot i x h
    cases x with
    | d x => exact ⟨v, h1, h2⟩
    | q ns => exact ⟨v, h1, h2⟩
    | o c =>
      obtain ⟨e1, o, e2, r⟩ := h2
      exact ⟨v, h1, e1, o, e _ _ e2 r.ntb, r⟩
/-- p: a new object, nobody's as yet -/
structure Fresh (S : Sx) (Y : Dy) (F : Hp) (A : Nat → Addr) (H : Hp) (δ : SS) (p : Addr) : Prop where
  f : F p = none
  h0 : NT Y.H0 p
  ne : ∀ i c, δ[i]? = some (some (.o c)) → A i ≠ p
theorem Rel.own_at (R : Rel K S Y F A H σ δ) {i : Nat} {c : OC} (h : δ[i]? = some (some (.o c))) : ∃ o, σ[i]? = some (some (.ref (A i))) ∧ H (A i) = some o ∧ OR K F c o := by
  obtain ⟨v, h1, h2⟩ := R.slot i _ h
  obtain ⟨e, o, h3, h4⟩ := h2
  exact ⟨o, by rw [h1, e], h3, h4⟩
theorem Rel.fresh (R : Rel K S Y F A H σ δ) {p : Addr} (hp : H p = none) : Fresh S Y F A H δ p := by
  refine ⟨R.sub.free hp, R.kp.dom p (.none hp), fun i c h e => ?_⟩
  obtain ⟨o, _, h3, _⟩ := R.own_at h
  rw [e, hp] at h3
  cases h3
/-- a new object is laid -/
theorem Rel.laid (R : Rel K S Y F A H σ δ) {p : Addr} {o : HO} (hp : H p = none) : Rel K S Y F A (upd H p o) σ δ := by
  refine ⟨fun b u q => ?_, R.ntb, R.grow, R.frs, kp_laid R.kp hp, tabs_laid R.tabs hp, R.len, fun i x h => ?_, R.own, R.inj, R.pin, R.oadr, R.opar⟩
  · have := R.sub b u q
    rw [upd_ne (ne_of_none this hp)]
    exact this
  · obtain ⟨v, h1, h2⟩ := R.slot i x h
    refine ⟨v, h1, h2.mono (Same.refl F) fun c u e q => ?_⟩
    rw [upd_ne (ne_of_none q hp)]
    exact q
theorem same_upd {F : Hp} {p : Addr} {o : HO} (h : F p = none) : Same F (upd F p o) := fun b u q => by
  rw [upd_ne (ne_of_none q h)]
  exact q
/-- a fresh object is frozen -/
theorem Rel.freeze (R : Rel K S Y F A H σ δ) {p : Addr} {o : HO} (hp : H p = some o) (fr : Fresh S Y F A H δ p) (nt : ∀ ps, o ≠ .tbl ps) : Rel K S Y (upd F p o) A H σ δ := by
  refine ⟨fun b u q => ?_, fun b ps => ?_, fun b u q => ?_, fun b q => ?_, R.kp, R.tabs, R.len, fun i x h => ?_, fun i c h => ?_, R.inj, R.pin, R.oadr, R.opar⟩
  · by_cases e : b = p
    · rw [e, upd_same] at q
      rw [e, hp, q]
    · rw [upd_ne e] at q
      exact R.sub b u q
  · by_cases e : b = p
    · rw [e, upd_same]
      exact fun z => nt ps (Option.some.inj z)
    · rw [upd_ne e]
      exact R.ntb b ps
  · exact same_upd fr.f b u (R.grow b u q)
  · by_cases e : b = p
    · rw [e]
      exact .inr fr.h0
    · rw [upd_ne e] at q
      exact R.frs b q
  · obtain ⟨v, h1, h2⟩ := R.slot i x h
    exact ⟨v, h1, h2.mono (same_upd fr.f) fun _ _ _ q => q⟩
  · obtain ⟨h1, h2⟩ := R.own i c h
    exact ⟨by rw [upd_ne (fr.ne i c h)]; exact h1, h2⟩
/-- a new object, frozen at once -/
theorem Rel.lay (R : Rel K S Y F A H σ δ) {p : Addr} {o : HO} (hp : H p = none) (nt : ∀ ps, o ≠ .tbl ps) : Rel K S Y (upd F p o) A (upd H p o) σ δ :=
  (R.laid hp).freeze upd_same ⟨(R.fresh hp).f, (R.fresh hp).h0, (R.fresh hp).ne⟩ nt
/-- the slot i takes a fresh object -/
theorem Rel.setO (R : Rel K S Y F A H σ δ) {i : Nat} {p : Addr} {c : OC} {o : HO} (hi : S.np ≤ i) (hp : H p = some o) (r : OR K F c o) (fr : Fresh S Y F A H δ p) :
    Rel K S Y F (updA A i p) H (σ.set i (some (.ref p))) (δ.set i (some (.o c))) := by
  have self : updA A i p i = p := if_pos rfl
  have other : ∀ {j}, j ≠ i → updA A i p j = A j := fun h => if_neg h
  refine ⟨R.sub, R.ntb, R.grow, R.frs, R.kp, R.tabs, by simpa using R.len, fun j x h => ?_, fun j c' h => ?_, fun j k c' c'' h1 h2 e => ?_, fun j hj => ?_, fun j c' hj h => ?_, R.opar⟩
  · rcases set_some h with ⟨rfl, rfl, hl⟩ | ⟨ne, h⟩
    · exact ⟨.ref p, List.getElem?_set_self (by rw [R.len]; exact hl), by rw [self]; exact ⟨rfl, o, hp, r⟩⟩
    · obtain ⟨w, h1, h2⟩ := R.slot j x h
      exact ⟨w, by rw [List.getElem?_set_ne (Ne.symm ne)]; exact h1, by rw [other ne]; exact h2⟩
  · rcases set_some h with ⟨rfl, e, _⟩ | ⟨ne, h⟩
    · rw [self]
      exact ⟨fr.f, .inr fr.h0⟩
    · rw [other ne]
      exact R.own j c' h
  · rcases set_some h1 with ⟨e1, _, _⟩ | ⟨n1, g1⟩
    · rcases set_some h2 with ⟨e2, _, _⟩ | ⟨n2, g2⟩
      · rw [e1, e2]
      · rw [e1, self, other n2] at e
        exact absurd e.symm (fr.ne k _ g2)
    · rcases set_some h2 with ⟨e2, _, _⟩ | ⟨n2, g2⟩
      · rw [e2, self, other n1] at e
        exact absurd e (fr.ne j _ g1)
      · rw [other n1, other n2] at e
        exact R.inj j k _ _ g1 g2 e
  · rw [other (by omega)]
    exact R.pin j hj
  · rcases set_some h with ⟨rfl, _, _⟩ | ⟨ne, h⟩
    · omega
    · rw [other ne]
      exact R.oadr j c' hj h
/-- an own object is written -/
theorem Rel.wr (R : Rel K S Y F A H σ δ) {i : Nat} {c c' : OC} {o' : HO} (h : δ[i]? = some (some (.o c))) (r : OR K F c' o') : Rel K S Y F A (upd H (A i) o') σ (δ.set i (some (.o c'))) := by
  obtain ⟨o, hσ, hH, hr⟩ := R.own_at h
  obtain ⟨hF, hown⟩ := R.own i c h
  have hl : i < δ.length := (List.getElem?_eq_some_iff.mp h).1
  refine ⟨fun b u q => ?_, R.ntb, R.grow, R.frs, ⟨fun b u q n t => ?_, fun b q => R.kp.dom b ?_⟩, fun p hp => ?_, by simpa using R.len, fun j x hx => ?_, fun j d hd => ?_, fun j k d d' h1 h2 => ?_, R.pin, fun j d hj hd => ?_, R.opar⟩
  · rw [upd_ne (ne_of_none q hF)]
    exact R.sub b u q
  · have ne : b ≠ A i := fun e => by
      rcases hown with z | z
      · exact n (by rw [e]; exact R.oadr i c z h)
      · obtain ⟨ps, y⟩ := z u (by rw [← e]; exact q)
        exact t ps y
    rw [upd_ne ne]
    exact R.kp.keep b u q n t
  · by_cases e : b = A i
    · obtain ⟨ps, y⟩ := q o' (by rw [e, upd_same])
      exact absurd y (r.ntb ps)
    · exact fun o z => q o (by rw [upd_ne e]; exact z)
  · obtain ⟨ps, h1, h2, h3⟩ := R.tabs p hp
    have n1 : p.1 ≠ A i := ne_of h1 hH fun z => hr.ntb ps z.symm
    refine ⟨ps, by rw [upd_ne n1]; exact h1, h2, fun pos cv hc => ?_⟩
    obtain ⟨cc, e1, e2⟩ := h3 pos cv hc
    have n2 : cc ≠ A i := ne_of e2 hH fun z => by
      rw [← z] at hr
      cases hr
    exact ⟨cc, e1, by rw [upd_ne n2]; exact e2⟩
  · rcases set_some hx with ⟨rfl, rfl, _⟩ | ⟨ne, hx⟩
    · exact ⟨_, hσ, rfl, o', upd_same, r⟩
    · obtain ⟨v, h1, h2⟩ := R.slot j x hx
      refine ⟨v, h1, h2.mono (Same.refl F) fun d u e q => ?_⟩
      subst e
      rw [upd_ne fun z => ne (R.inj j i _ _ hx h z)]
      exact q
  · rcases set_some hd with ⟨rfl, _, _⟩ | ⟨ne, hd⟩
    · exact ⟨hF, hown⟩
    · exact R.own j d hd
  · rcases set_some h1 with ⟨e1, _, _⟩ | ⟨n1, g1⟩
    · rcases set_some h2 with ⟨e2, _, _⟩ | ⟨n2, g2⟩
      · exact fun _ => e1.trans e2.symm
      · rw [e1]
        exact R.inj i k _ _ h g2
    · rcases set_some h2 with ⟨e2, _, _⟩ | ⟨n2, g2⟩
      · rw [e2]
        exact R.inj j i _ _ g1 h
      · exact R.inj j k _ _ g1 g2
  · rcases set_some hd with ⟨rfl, _, _⟩ | ⟨ne, hd⟩
    · exact R.oadr j c hj h
    · exact R.oadr j d hj hd
/-- an own object is frozen -/
theorem Rel.frz (R : Rel K S Y F A H σ δ) {i : Nat} {c : OC} (h : δ[i]? = some (some (.o c))) (hi : S.np ≤ i) : ∃ F', Rel K S Y F' A H σ (δ.set i (some (.d c.toD))) ∧ Same F F' := by
  obtain ⟨o, hσ, hH, hr⟩ := R.own_at h
  obtain ⟨hF, hown⟩ := R.own i c h
  have h0 : NT Y.H0 (A i) := hown.elim (fun z => absurd z (by omega)) fun z => z
  have fr : Fresh S Y F A H (δ.set i none) (A i) := ⟨hF, h0, fun j d hd e => (set_none hd).1 (R.inj j i _ _ (set_none hd).2 h e)⟩
  have R1 := (R.drop i).freeze hH fr hr.ntb
  have R2 := R1.setD (i := i) (d := c.toD) (v := .ref (A i)) ((hr.mono (same_upd hF)).rp upd_same)
  rw [List.set_set] at R2
  have e : σ.set i (some (.ref (A i))) = σ := by
    apply List.ext_getElem?
    intro j
    by_cases z : i = j
    · subst z
      rw [hσ, List.getElem?_set_self (by rw [R.len]; exact (List.getElem?_eq_some_iff.mp h).1)]
    · rw [List.getElem?_set_ne z]
  rw [e] at R2
  exact ⟨_, R2, same_upd hF⟩
end
end DL
set_option Elab.async false
set_option linter.all false
set_option maxRecDepth 100000
set_option maxHeartbeats 4000000
namespace DL
open PySem PySem.Spec PyProof.Rows L2
/-! ### answers -/
/-- an answer with the slots behind it: a value, an error of the class c whose field f holds x, or nothing told -/
inductive R (α : Type) where
  | bad
  | ok (a : α) (δ : SS)
  | ex (c f : Str) (x : D) (δ : SS)
def R.bind {α β : Type} : R α → (α → SS → R β) → R β
  | .bad, _ => .bad
  | .ok a δ, k => k a δ
  | .ex c f x δ, _ => .ex c f x δ
def R.opt {α : Type} : Option α → SS → R α
  | some a, δ => .ok a δ
  | none, _ => .bad
def ExR (K : Frg) (mg : Str → Option Value) (F H : Hp) (c f : Str) (x : D) (cls : Value) (dd : Option Addr) : Prop :=
  ∃ C dx v, mg c = some (.ref C) ∧ cls = .ref C ∧ dd = some dx ∧ H dx = some (.xd [(f, v)]) ∧ Rp K F x v
/-- what must hold so that an answer leads to Q -/
def Run {α β : Type} (K : Frg) (mg : Str → Option Value) (S : Sx) (Y : Dy) (A : Nat → Addr) (σ : L2.St) (W : WX) (ρ : Hp → Hp → SS → α → β → Prop) (F : Hp) (r : R α) (Q : β → Hp → Prop) : Prop :=
  match r with
  | .bad => False
  | .ok a δ' => ∀ b H' F', Rel K S Y F' A H' σ δ' → Same F F' → ρ F' H' δ' a b → Q b H'
  | .ex c f x δ' => ∀ cls dd H' F', Rel K S Y F' A H' σ δ' → Same F F' → ExR K mg F' H' c f x cls dd → W cls dd σ H'
section
variable {α β γ κ : Type} {K : Frg} {mg : Str → Option Value} {S : Sx} {Y : Dy} {A : Nat → Addr} {σ : L2.St} {W : WX} {F F' : Hp}
theorem Run.weak {ρ : Hp → Hp → SS → α → β → Prop} {r : R α} {Q : β → Hp → Prop} (h : Run K mg S Y A σ W ρ F r Q) (e : Same F F') : Run K mg S Y A σ W ρ F' r Q := by
  cases r with
  | bad => exact h
  | ok a δ => exact fun b H' F2 R s q => h b H' F2 R (e.trans s) q
  | ex c f x δ => exact fun cls dd H' F2 R s q => h cls dd H' F2 R (e.trans s) q
theorem Run.bind {ρ : Hp → Hp → SS → α → β → Prop} {ρ' : Hp → Hp → SS → γ → κ → Prop} {r : R α} {k : α → SS → R γ} {Q : κ → Hp → Prop} {Q1 : β → Hp → Prop} (h : Run K mg S Y A σ W ρ' F (r.bind k) Q)
    (hk : ∀ a δ1 b H1 F1, r = .ok a δ1 → Rel K S Y F1 A H1 σ δ1 → Same F F1 → ρ F1 H1 δ1 a b → Run K mg S Y A σ W ρ' F1 (k a δ1) Q → Q1 b H1) : Run K mg S Y A σ W ρ F r Q1 := by
  cases r with
  | bad => exact h
  | ok a δ => exact fun b H' F2 R s q => hk a δ b H' F2 rfl R s q (Run.weak h s)
  | ex c f x δ => exact h
theorem Run.opt {ρ : Hp → Hp → SS → α → β → Prop} {o : Option α} {δ : SS} {Q : β → Hp → Prop} (h : Run K mg S Y A σ W ρ F (R.opt o δ) Q) : ∃ a, o = some a ∧ ∀ b H' F', Rel K S Y F' A H' σ δ → Same F F' → ρ F' H' δ a b → Q b H' := by
  cases o with
  | none => exact h.elim
  | some a => exact ⟨a, rfl, h⟩
end
abbrev ρD (K : Frg) : Hp → Hp → SS → D → V → Prop := fun F' _ _ d v => Rp K F' d v
abbrev ρA (K : Frg) : Hp → Hp → SS → List D → List V → Prop := fun F' _ _ d v => Rps K F' d v
abbrev ρB : Hp → Hp → SS → Bool → Bool → Prop := fun _ _ _ a b => a = b
abbrev ρO (K : Frg) (S : Sx) (Y : Dy) (A : Nat → Addr) : Hp → Hp → SS → OC → V → Prop := fun F' H' δ' c v => ∃ p o, v = .ref p ∧ H' p = some o ∧ OR K F' c o ∧ Fresh S Y F' A H' δ' p
/-! ### the judgements -/
/-- the expression e gives the datum that g tells -/
def EV (X : Cx) (S : Sx) (W : WX) (e : Expr) (g : SS → R D) : Prop :=
  ∃ t, PE X e t ∧ ∀ Y A σ H δ F Q, Rel X.K S Y F A H σ δ → Run X.K X.mg S Y A σ W (ρD X.K) F (g δ) Q → t σ H Q
/-- .. a new object -/
def EO (X : Cx) (S : Sx) (W : WX) (e : Expr) (g : SS → R OC) : Prop :=
  ∃ t, PE X e t ∧ ∀ Y A σ H δ F Q, Rel X.K S Y F A H σ δ → Run X.K X.mg S Y A σ W (ρO X.K S Y A) F (g δ) Q → t σ H Q
def TV (X : Cx) (S : Sx) (W : WX) (e : Expr) (g : SS → R Bool) : Prop :=
  ∃ t, PT X e t ∧ ∀ Y A σ H δ F Q, Rel X.K S Y F A H σ δ → Run X.K X.mg S Y A σ W ρB F (g δ) Q → t σ H Q
def TWV (X : Cx) (S : Sx) (W : WX) (e : Expr) (g : SS → R Bool) : Prop :=
  ∃ t, PW X e t ∧ ∀ Y A σ H δ F Q, Rel X.K S Y F A H σ δ → Run X.K X.mg S Y A σ W ρB F (g δ) Q → t σ H Q
def AV (X : Cx) (S : Sx) (W : WX) (es : List Expr) (g : SS → R (List D)) : Prop :=
  ∃ t, PA X es t ∧ ∀ Y A σ H δ F Q, Rel X.K S Y F A H σ δ → Run X.K X.mg S Y A σ W (ρA X.K) F (g δ) Q → t σ H Q
section
variable {X : Cx} {S : Sx} {W : WX} {a b e : Expr} {es : List Expr} {pos : Pos} {ga gb : SS → R D}
/-! ### small parts -/
theorem opt_run {α β : Type} {K : Frg} {mg : Str → Option Value} {S : Sx} {Y : Dy} {A : Nat → Addr} {σ : L2.St} {W : WX} {ρ : Hp → Hp → SS → α → β → Prop} {F : Hp} {a : α} {δ : SS} {Q : β → Hp → Prop} {b : β} {H : Hp} (h : Run K mg S Y A σ W ρ F (.ok a δ) Q) (R : Rel K S Y F A H σ δ) (q : ρ F H δ a b) : Q b H :=
  h b H F R (Same.refl F) q
/-- a new object as a datum -/
def gD (g : SS → R OC) : SS → R D := fun δ => (g δ).bind fun c δ' => .ok c.toD δ'
theorem ev_of {g : SS → R OC} (h : EO X S W e g) : EV X S W e (gD g) := by
  obtain ⟨t, p, q⟩ := h
  refine ⟨t, p, fun Y A σ H δ F Q Rl hr => q _ _ _ _ _ _ _ Rl (Run.bind hr fun c δ1 v H1 F1 _ R1 s1 ⟨p, o, e1, e2, r, fr⟩ h1 => ?_)⟩
  subst e1
  exact h1 _ _ _ (R1.freeze e2 fr r.ntb) (same_upd fr.f) ((r.mono (same_upd fr.f)).rp upd_same)
def gVar (i : Nat) : SS → R D := fun δ => match δ[i]? with
  | some (some (.d x)) => .ok x δ
  | _ => .bad
theorem ev_var (i : Nat) {x : Str} (hN : X.N[i]? = some x := by rfl) (hv : Vis X.env.scope x := by first | exact Or.inl rfl | exact Or.inr (Or.inl rfl) | exact Or.inr (Or.inr rfl)) (hd : (x == ("__debug__" : Str)) = false := by decide)
    (hcd : (x == ("__classdict__" : Str)) = false := by decide) : EV X S W (.Name x pos) (gVar i) := by
  refine ⟨_, pe_var hN hv hd hcd, fun Y A σ H δ F Q Rl h => ?_⟩
  show ∃ v, σ[i]? = some (some v) ∧ Q v H
  unfold gVar at h
  split at h
  · rename_i x e
    obtain ⟨v, h1, h2⟩ := Rl.slot i _ e
    exact ⟨v, h1, opt_run h Rl h2⟩
  · exact h.elim
def gC (d : D) : SS → R D := fun δ => .ok d δ
theorem ev_int {i : Int} {j : Nat} : EV X S W (.Constant (.int i) j pos) (gC (.int i)) := ⟨_, pe_int, fun Y A σ H δ F Q Rl h => opt_run h Rl (.int i)⟩
theorem ev_bl {i : Bool} {j : Nat} : EV X S W (.Constant (.bool i) j pos) (gC (.bool i)) := ⟨_, pe_bl, fun Y A σ H δ F Q Rl h => opt_run h Rl (.bl i)⟩
theorem ev_non {j : Nat} : EV X S W (.Constant .none j pos) (gC .none) := ⟨_, pe_non, fun Y A σ H δ F Q Rl h => opt_run h Rl .non⟩
theorem ev_str {x : Str} {j : Nat} : EV X S W (.Constant (.str x) j pos) (gC (.str x)) := ⟨_, pe_str, fun Y A σ H δ F Q Rl h => opt_run h Rl (.str x)⟩
/-- a module's int, text -/
theorem ev_globI {x : Str} {i : Int} {t : Tok} (hm : X.mg x = some (.int i t)) (hg : Gl X x := by rfl) (hd : (x == ("__debug__" : Str)) = false := by decide) : EV X S W (.Name x pos) (gC (.int i)) :=
  ⟨_, pe_glob hg hm (v := .int i) ⟨_, rfl⟩ hd, fun Y A σ H δ F Q Rl h => opt_run h Rl (.int i)⟩
theorem ev_globS {x : Str} {i : Str} {t : Tok} (hm : X.mg x = some (.str i t)) (hg : Gl X x := by rfl) (hd : (x == ("__debug__" : Str)) = false := by decide) : EV X S W (.Name x pos) (gC (.str i)) :=
  ⟨_, pe_glob hg hm (v := .str i) ⟨_, rfl⟩ hd, fun Y A σ H δ F Q Rl h => opt_run h Rl (.str i)⟩
/-! ### two places -/
def gOp (f : D → D → Option D) (ga gb : SS → R D) : SS → R D := fun δ => (ga δ).bind fun x δ1 => (gb δ1).bind fun y δ2 => R.opt (f x y) δ2
def OpOk (X : Cx) (S : Sx) (r : R2) (f : D → D → Option D) : Prop := ∀ Y A σ H δ F v u x y d Q, Rel X.K S Y F A H σ δ → Rp X.K F x v → Rp X.K F y u → f x y = some d →
  (∀ w H' F', Rel X.K S Y F' A H' σ δ → Same F F' → Rp X.K F' d w → Q w H') → r v u H Q
theorem op_run {r : R2} {f : D → D → Option D} {ta tb : TE} (hf : OpOk X S r f)
    (qa : ∀ Y A σ H δ F Q, Rel X.K S Y F A H σ δ → Run X.K X.mg S Y A σ W (ρD X.K) F (ga δ) Q → ta σ H Q) (qb : ∀ Y A σ H δ F Q, Rel X.K S Y F A H σ δ → Run X.K X.mg S Y A σ W (ρD X.K) F (gb δ) Q → tb σ H Q) :
    ∀ Y A σ H δ F Q, Rel X.K S Y F A H σ δ → Run X.K X.mg S Y A σ W (ρD X.K) F (gOp f ga gb δ) Q → tOp r ta tb σ H Q := fun Y A σ H δ F Q Rl h => by
  refine qa _ _ _ _ _ _ _ Rl (Run.bind h fun x δ1 v H1 F1 e R1 s1 rx h1 => ?_)
  refine qb _ _ _ _ _ _ _ R1 (Run.bind h1 fun y δ2 u H2 F2 e2 R2 s2 ry h2 => ?_)
  obtain ⟨d, ed, q⟩ := Run.opt h2
  exact hf _ _ _ _ _ _ _ _ _ _ _ _ R2 (rx.mono s2) ry ed q
theorem ev_op {op : Operator} {r : R2} {f : D → D → Option D} (ho : OpR X (binaryOp op) r) (hf : OpOk X S r f) (ha : EV X S W a ga) (hb : EV X S W b gb) : EV X S W (.BinOp a op b pos) (gOp f ga gb) := by
  obtain ⟨ta, pa, qa⟩ := ha
  obtain ⟨tb, pb, qb⟩ := hb
  exact ⟨_, pe_op ho pa pb, op_run hf qa qb⟩
theorem ev_cmp {op : CmpOp} {r : R2} {f : D → D → Option D} (ho : OpR X (compareOp op) r) (hf : OpOk X S r f) (ha : EV X S W a ga) (hb : EV X S W b gb) (hm : behindInMarks op b = false := by first | exact nomark _ | rfl) : EV X S W (.Compare a [op] [b] pos) (gOp f ga gb) := by
  obtain ⟨ta, pa, qa⟩ := ha
  obtain ⟨tb, pb, qb⟩ := hb
  exact ⟨_, pe_cmpR ho pa pb hm, op_run hf qa qb⟩
def dBool : D → Option Bool
  | .bool b => some b
  | _ => none
theorem rp_bool {K : Frg} {F : Hp} {x : D} {v : V} {b : Bool} (r : Rp K F x v) (h : dBool x = some b) : v = .bl b := by
  cases r <;> simp [dBool] at h
  subst h
  rfl
/-- a value that is a bool, as a test -/
def gT (g : SS → R D) : SS → R Bool := fun δ => (g δ).bind fun x δ1 => R.opt (dBool x) δ1
theorem gT_run {t : TE} {g : SS → R D} (q : ∀ Y A σ H δ F Q, Rel X.K S Y F A H σ δ → Run X.K X.mg S Y A σ W (ρD X.K) F (g δ) Q → t σ H Q) :
    ∀ Y A σ H δ F Q, Rel X.K S Y F A H σ δ → Run X.K X.mg S Y A σ W ρB F (gT g δ) Q → t σ H fun x H1 => ∃ k, x = .bl k ∧ Q k H1 := fun Y A σ H δ F Q Rl h => by
  refine q _ _ _ _ _ _ _ Rl (Run.bind h fun x δ1 v H1 F1 e R1 s1 rx h1 => ?_)
  obtain ⟨b, eb, q⟩ := Run.opt h1
  exact ⟨b, rp_bool rx eb, q b _ _ R1 (Same.refl _) rfl⟩
theorem tv_of {g : SS → R D} (h : EV X S W e g) (he : ∀ whole, isTrue e X.env whole = (do let v ← whole; standAt e.pos; holding [v] (truthy v)) := by intro _; rfl) : TV X S W e (gT g) := by
  obtain ⟨t, p, q⟩ := h
  exact ⟨_, pt_val p he, gT_run q⟩
theorem tv_cmp {op : CmpOp} {r : R2} {f : D → D → Option D} (ho : OpR X (compareOp op) r) (hf : OpOk X S r f) (ha : EV X S W a ga) (hb : EV X S W b gb) (hm : behindInMarks op b = false := by first | exact nomark _ | rfl) : TV X S W (.Compare a [op] [b] pos) (gT (gOp f ga gb)) := by
  obtain ⟨ta, pa, qa⟩ := ha
  obtain ⟨tb, pb, qb⟩ := hb
  exact ⟨_, pt_cmpR ho pa pb hm, gT_run (op_run hf qa qb)⟩
/-! ### chains -/
variable {c : Expr} {gc : SS → R D}
def gChain (f f' : D → D → Option D) (ga gb gc : SS → R D) : SS → R D := fun δ => (ga δ).bind fun x δ1 => (gb δ1).bind fun y δ2 => (R.opt ((f x y).bind dBool) δ2).bind fun k δ3 =>
  if k = true then (gc δ3).bind fun z δ4 => R.opt (f' y z) δ4 else .ok (.bool false) δ3
theorem chain_run {r r' : R2} {f f' : D → D → Option D} {ta tb tc : TE} (hf : OpOk X S r f) (hf' : OpOk X S r' f')
    (qa : ∀ Y A σ H δ F Q, Rel X.K S Y F A H σ δ → Run X.K X.mg S Y A σ W (ρD X.K) F (ga δ) Q → ta σ H Q) (qb : ∀ Y A σ H δ F Q, Rel X.K S Y F A H σ δ → Run X.K X.mg S Y A σ W (ρD X.K) F (gb δ) Q → tb σ H Q)
    (qc : ∀ Y A σ H δ F Q, Rel X.K S Y F A H σ δ → Run X.K X.mg S Y A σ W (ρD X.K) F (gc δ) Q → tc σ H Q) :
    ∀ Y A σ H δ F Q, Rel X.K S Y F A H σ δ → Run X.K X.mg S Y A σ W (ρD X.K) F (gChain f f' ga gb gc δ) Q → tChain r r' ta tb tc σ H Q := fun Y A σ H δ F Q Rl h => by
  refine qa _ _ _ _ _ _ _ Rl (Run.bind h fun x δ1 v H1 F1 e R1 s1 rx h1 => ?_)
  refine qb _ _ _ _ _ _ _ R1 (Run.bind h1 fun y δ2 u H2 F2 e2 R2 s2 ry h2 => ?_)
  cases ef : f x y with
  | none =>
    rw [ef] at h2
    exact h2.elim
  | some d =>
    rw [ef] at h2
    cases eb : dBool d with
    | none =>
      have h2' : Run X.K X.mg S Y A σ W (ρD X.K) F2 ((R.opt (dBool d) δ2).bind _) Q := h2
      rw [eb] at h2'
      exact h2'.elim
    | some k =>
      have h2' : Run X.K X.mg S Y A σ W (ρD X.K) F2 ((R.opt (dBool d) δ2).bind _) Q := h2
      rw [eb] at h2'
      refine hf _ _ _ _ _ _ _ _ _ _ _ _ R2 (rx.mono s2) ry ef fun w H3 F3 R3 s3 rw3 => ⟨k, rp_bool rw3 eb, ?_⟩
      cases k with
      | true =>
        refine iteT ?_
        have h3 : Run X.K X.mg S Y A σ W (ρD X.K) F3 ((gc δ2).bind fun z δ4 => R.opt (f' y z) δ4) Q := Run.weak h2' s3
        refine qc _ _ _ _ _ _ _ R3 (Run.bind h3 fun z δ4 u4 H4 F4 e4 R4 s4 rz h4 => ?_)
        obtain ⟨d', ed', q'⟩ := Run.opt h4
        exact hf' _ _ _ _ _ _ _ _ _ _ _ _ R4 ((ry.mono s3).mono s4) rz ed' q'
      | false =>
        refine iteF ?_
        exact h2' _ _ _ R3 s3 (.bl false)
theorem ev_chain {op op' : CmpOp} {r r' : R2} {f f' : D → D → Option D} (ho : OpR X (compareOp op) r) (ho' : OpR X (compareOp op') r') (hf : OpOk X S r f) (hf' : OpOk X S r' f') (ha : EV X S W a ga) (hb : EV X S W b gb) (hc : EV X S W c gc)
    (hm : lastMarks [op, op'] [b, c] = false := by with_unfolding_all rfl) : EV X S W (.Compare a [op, op'] [b, c] pos) (gChain f f' ga gb gc) := by
  obtain ⟨ta, pa, qa⟩ := ha
  obtain ⟨tb, pb, qb⟩ := hb
  obtain ⟨tc, pc, qc⟩ := hc
  exact ⟨_, pe_chain ho ho' pa pb pc hm, chain_run hf hf' qa qb qc⟩
theorem tv_chain {op op' : CmpOp} {r r' : R2} {f f' : D → D → Option D} (ho : OpR X (compareOp op) r) (ho' : OpR X (compareOp op') r') (hf : OpOk X S r f) (hf' : OpOk X S r' f') (ha : EV X S W a ga) (hb : EV X S W b gb) (hc : EV X S W c gc)
    (hm : lastMarks [op, op'] [b, c] = false := by with_unfolding_all rfl) : TV X S W (.Compare a [op, op'] [b, c] pos) (gT (gChain f f' ga gb gc)) := by
  obtain ⟨ta, pa, qa⟩ := ha
  obtain ⟨tb, pb, qb⟩ := hb
  obtain ⟨tc, pc, qc⟩ := hc
  exact ⟨_, pt_chain ho ho' pa pb pc hm, gT_run (chain_run hf hf' qa qb qc)⟩
/-! ### and, or, not, if else -/
variable {ta' tb' : SS → R Bool} {rest : List Expr}
def gAnd (ga gb : SS → R Bool) : SS → R Bool := fun δ => (ga δ).bind fun x δ1 => if x = true then gb δ1 else .ok false δ1
def gOr (ga gb : SS → R Bool) : SS → R Bool := fun δ => (ga δ).bind fun x δ1 => if x = true then .ok true δ1 else gb δ1
def gNot (ga : SS → R Bool) : SS → R Bool := fun δ => (ga δ).bind fun x δ1 => .ok (!x) δ1
theorem tw_and1 (h : TV X S W a ta') : TWV X S W (.BoolOp .And [a] pos) ta' := by
  obtain ⟨t, p, q⟩ := h
  exact ⟨t, pw_and1 p, q⟩
theorem tw_or1 (h : TV X S W a ta') : TWV X S W (.BoolOp .Or [a] pos) ta' := by
  obtain ⟨t, p, q⟩ := h
  exact ⟨t, pw_or1 p, q⟩
theorem tw_and (h : TV X S W a ta') (h2 : TWV X S W (.BoolOp .And (b :: rest) pos) tb') : TWV X S W (.BoolOp .And (a :: b :: rest) pos) (gAnd ta' tb') := by
  obtain ⟨t, p, q⟩ := h
  obtain ⟨t2, p2, q2⟩ := h2
  refine ⟨_, pw_and p p2, fun Y A σ H δ F Q Rl hr => q _ _ _ _ _ _ _ Rl (Run.bind hr fun x δ1 v H1 F1 _ R1 s1 e1 h1 => ?_)⟩
  have e1' : x = v := e1
  subst e1'
  cases x with
  | true => exact iteT (q2 _ _ _ _ _ _ _ R1 h1)
  | false => exact iteF (h1 _ _ _ R1 (Same.refl _) rfl)
theorem tw_or (h : TV X S W a ta') (h2 : TWV X S W (.BoolOp .Or (b :: rest) pos) tb') : TWV X S W (.BoolOp .Or (a :: b :: rest) pos) (gOr ta' tb') := by
  obtain ⟨t, p, q⟩ := h
  obtain ⟨t2, p2, q2⟩ := h2
  refine ⟨_, pw_or p p2, fun Y A σ H δ F Q Rl hr => q _ _ _ _ _ _ _ Rl (Run.bind hr fun x δ1 v H1 F1 _ R1 s1 e1 h1 => ?_)⟩
  have e1' : x = v := e1
  subst e1'
  cases x with
  | true => exact iteT (h1 _ _ _ R1 (Same.refl _) rfl)
  | false => exact iteF (q2 _ _ _ _ _ _ _ R1 h1)
theorem tv_w {g : SS → R Bool} (h : TWV X S W e g) : TV X S W e g := by
  obtain ⟨t, p, q⟩ := h
  exact ⟨t, p.pt, q⟩
theorem tv_not (h : TV X S W a ta') : TV X S W (.UnaryOp .Not a pos) (gNot ta') := by
  obtain ⟨t, p, q⟩ := h
  refine ⟨_, pt_not p, fun Y A σ H δ F Q Rl hr => q _ _ _ _ _ _ _ Rl (Run.bind hr fun x δ1 v H1 F1 _ R1 s1 e1 h1 => ?_)⟩
  have e1' : x = v := e1
  subst e1'
  exact h1 _ _ _ R1 (Same.refl _) rfl
def gAndV (ga gb : SS → R D) : SS → R D := fun δ => (gT ga δ).bind fun x δ1 => if x = true then gb δ1 else .ok (.bool false) δ1
def gOrV (ga gb : SS → R D) : SS → R D := fun δ => (gT ga δ).bind fun x δ1 => if x = true then .ok (.bool true) δ1 else gb δ1
def gNotV (ga : SS → R D) : SS → R D := fun δ => (gT ga δ).bind fun x δ1 => .ok (.bool (!x)) δ1
theorem ev_one {op : PySem.BoolOp} (h : EV X S W a ga) : EV X S W (.BoolOp op [a] pos) ga := by
  obtain ⟨t, p, q⟩ := h
  exact ⟨t, pe_one p, q⟩
theorem bnd_gT {g : SS → R D} {k : Bool → SS → R D} {δ : SS} : (gT g δ).bind k = (g δ).bind fun x δ1 => (R.opt (dBool x) δ1).bind k := by
  unfold gT
  cases g δ <;> rfl
theorem ev_and (h : EV X S W a ga) (h2 : EV X S W (.BoolOp .And (b :: rest) pos) gb) : EV X S W (.BoolOp .And (a :: b :: rest) pos) (gAndV ga gb) := by
  obtain ⟨t, p, q⟩ := h
  obtain ⟨t2, p2, q2⟩ := h2
  refine ⟨_, pe_and p p2, fun Y A σ H δ F Q Rl hr => ?_⟩
  unfold gAndV at hr
  rw [bnd_gT] at hr
  refine q _ _ _ _ _ _ _ Rl (Run.bind hr fun x δ1 v H1 F1 _ R1 s1 rx h1 => ?_)
  cases eb : dBool x with
  | none =>
    rw [eb] at h1
    exact h1.elim
  | some k =>
    rw [eb] at h1
    refine ⟨k, rp_bool rx eb, ?_⟩
    cases k with
    | true => exact iteT (q2 _ _ _ _ _ _ _ R1 h1)
    | false => exact iteF (h1 _ _ _ R1 (Same.refl _) (.bl false))
theorem ev_or (h : EV X S W a ga) (h2 : EV X S W (.BoolOp .Or (b :: rest) pos) gb) : EV X S W (.BoolOp .Or (a :: b :: rest) pos) (gOrV ga gb) := by
  obtain ⟨t, p, q⟩ := h
  obtain ⟨t2, p2, q2⟩ := h2
  refine ⟨_, pe_or p p2, fun Y A σ H δ F Q Rl hr => ?_⟩
  unfold gOrV at hr
  rw [bnd_gT] at hr
  refine q _ _ _ _ _ _ _ Rl (Run.bind hr fun x δ1 v H1 F1 _ R1 s1 rx h1 => ?_)
  cases eb : dBool x with
  | none =>
    rw [eb] at h1
    exact h1.elim
  | some k =>
    rw [eb] at h1
    refine ⟨k, rp_bool rx eb, ?_⟩
    cases k with
    | true => exact iteT (h1 _ _ _ R1 (Same.refl _) (.bl true))
    | false => exact iteF (q2 _ _ _ _ _ _ _ R1 h1)
theorem ev_not (h : EV X S W a ga) : EV X S W (.UnaryOp .Not a pos) (gNotV ga) := by
  obtain ⟨t, p, q⟩ := h
  refine ⟨_, pe_not p, fun Y A σ H δ F Q Rl hr => ?_⟩
  unfold gNotV at hr
  rw [bnd_gT] at hr
  refine q _ _ _ _ _ _ _ Rl (Run.bind hr fun x δ1 v H1 F1 _ R1 s1 rx h1 => ?_)
  cases eb : dBool x with
  | none =>
    rw [eb] at h1
    exact h1.elim
  | some k =>
    rw [eb] at h1
    exact ⟨k, rp_bool rx eb, h1 _ _ _ R1 (Same.refl _) (.bl _)⟩
def gIfE {α : Type} (gc : SS → R Bool) (ga gb : SS → R α) : SS → R α := fun δ => (gc δ).bind fun x δ1 => if x = true then ga δ1 else gb δ1
theorem ev_if {gt : SS → R Bool} (h : TV X S W c gt) (h1 : EV X S W a ga) (h2 : EV X S W b gb) : EV X S W (.IfExp c a b pos) (gIfE gt ga gb) := by
  obtain ⟨t, p, q⟩ := h
  obtain ⟨t1, p1, q1⟩ := h1
  obtain ⟨t2, p2, q2⟩ := h2
  refine ⟨_, pe_ifExp p p1 p2, fun Y A σ H δ F Q Rl hr => q _ _ _ _ _ _ _ Rl (Run.bind hr fun x δ1 v H1 F1 _ R1 s1 e1 h1 => ?_)⟩
  have e1' : x = v := e1
  subst e1'
  cases x with
  | true => exact iteT (q1 _ _ _ _ _ _ _ R1 h1)
  | false => exact iteF (q2 _ _ _ _ _ _ _ R1 h1)
theorem eo_if {gt : SS → R Bool} {ga gb : SS → R OC} (h : TV X S W c gt) (h1 : EO X S W a ga) (h2 : EO X S W b gb) : EO X S W (.IfExp c a b pos) (gIfE gt ga gb) := by
  obtain ⟨t, p, q⟩ := h
  obtain ⟨t1, p1, q1⟩ := h1
  obtain ⟨t2, p2, q2⟩ := h2
  refine ⟨_, pe_ifExp p p1 p2, fun Y A σ H δ F Q Rl hr => q _ _ _ _ _ _ _ Rl (Run.bind hr fun x δ1 v H1 F1 _ R1 s1 e1 h1 => ?_)⟩
  have e1' : x = v := e1
  subst e1'
  cases x with
  | true => exact iteT (q1 _ _ _ _ _ _ _ R1 h1)
  | false => exact iteF (q2 _ _ _ _ _ _ _ R1 h1)
/-! ### arguments, displays -/
def gNil : SS → R (List D) := fun δ => .ok [] δ
def gCons (g : SS → R D) (gs : SS → R (List D)) : SS → R (List D) := fun δ => (g δ).bind fun x δ1 => (gs δ1).bind fun xs δ2 => .ok (x :: xs) δ2
theorem av_nil : AV X S W [] gNil := ⟨_, pa_nil, fun Y A σ H δ F Q Rl h => h _ _ _ Rl (Same.refl _) .nil⟩
theorem av_cons {gs : SS → R (List D)} (h : EV X S W e ga) (h2 : AV X S W es gs) (hs : starEach (e :: es) X.env = (false, eval e X.env) :: starEach es X.env := by rfl) : AV X S W (e :: es) (gCons ga gs) := by
  obtain ⟨t, p, q⟩ := h
  obtain ⟨t2, p2, q2⟩ := h2
  refine ⟨_, pa_cons p p2 hs, fun Y A σ H δ F Q Rl hr => q _ _ _ _ _ _ _ Rl (Run.bind hr fun x δ1 v H1 F1 _ R1 s1 rx h1 => ?_)⟩
  refine q2 _ _ _ _ _ _ _ R1 (Run.bind h1 fun y δ2 u H2 F2 e2 R2 s2 ry h2 => ?_)
  exact h2 _ _ _ R2 (Same.refl _) (.cons (rx.mono s2) ry)
def fitL (xs : List D) : Option (List D) := if xs.length ≤ sizeLine then some xs else none
theorem fitL_some {xs ys : List D} (h : fitL xs = some ys) : xs.length ≤ sizeLine ∧ ys = xs := by
  unfold fitL at h
  split at h
  · rename_i hz
    exact ⟨hz, (Option.some.inj h).symm⟩
  · cases h
def gTup (gs : SS → R (List D)) : SS → R D := fun δ => (gs δ).bind fun xs δ1 => (R.opt (fitL xs) δ1).bind fun ys δ2 => .ok (.tuple ys) δ2
def gLst (gs : SS → R (List D)) : SS → R OC := fun δ => (gs δ).bind fun xs δ1 => (R.opt (fitL xs) δ1).bind fun ys δ2 => .ok (.l ys) δ2
theorem rp_tup_lay {Y : Dy} {A : Nat → Addr} {σ : L2.St} {H F : Hp} {δ : SS} {xs : List D} {vs : List V} {p : Addr} (Rl : Rel X.K S Y F A H σ δ) (r : Rps X.K F xs vs) (hp : H p = none) :
    Rel X.K S Y (upd F p (.tup vs)) A (upd H p (.tup vs)) σ δ ∧ Same F (upd F p (.tup vs)) ∧ Rp X.K (upd F p (.tup vs)) (.tuple xs) (.ref p) := by
  have hF := Rl.sub.free hp
  exact ⟨Rl.lay hp (fun _ z => nomatch z), same_upd hF, .tup (.inl (.inl upd_same)) (r.mono (same_upd hF))⟩
theorem rp_lst_new {Y : Dy} {A : Nat → Addr} {σ : L2.St} {H F : Hp} {δ : SS} {xs : List D} {vs : List V} {p : Addr} (Rl : Rel X.K S Y F A H σ δ) (r : Rps X.K F xs vs) (hp : H p = none) :
    Rel X.K S Y F A (upd H p (.lst vs)) σ δ ∧ ρO X.K S Y A F (upd H p (.lst vs)) δ (.l xs) (.ref p) := by
  have fr := Rl.fresh hp
  exact ⟨Rl.laid hp, p, _, rfl, upd_same, .l r, ⟨fr.f, fr.h0, fr.ne⟩⟩
theorem ev_tup {gs : SS → R (List D)} {k : Nat} (h : AV X S W es gs) : EV X S W (.Tuple es k pos) (gTup gs) := by
  obtain ⟨t, p, q⟩ := h
  refine ⟨_, pe_tup p, fun Y A σ H δ F Q Rl hr => q _ _ _ _ _ _ _ Rl (Run.bind hr fun xs δ1 vs H1 F1 _ R1 s1 rx h1 => ?_)⟩
  cases ef : fitL xs with
  | none =>
    rw [ef] at h1
    exact h1.elim
  | some ys =>
    rw [ef] at h1
    obtain ⟨hz, e⟩ := fitL_some ef
    subst e
    refine ⟨by rw [rx.length]; exact hz, fun p hp => ?_⟩
    obtain ⟨a1, a2, a3⟩ := rp_tup_lay R1 rx hp
    exact h1 _ _ _ a1 a2 a3
theorem eo_lst {gs : SS → R (List D)} (h : AV X S W es gs) : EO X S W (.List es pos) (gLst gs) := by
  obtain ⟨t, p, q⟩ := h
  refine ⟨_, pe_lst p, fun Y A σ H δ F Q Rl hr => q _ _ _ _ _ _ _ Rl (Run.bind hr fun xs δ1 vs H1 F1 _ R1 s1 rx h1 => ?_)⟩
  cases ef : fitL xs with
  | none =>
    rw [ef] at h1
    exact h1.elim
  | some ys =>
    rw [ef] at h1
    obtain ⟨hz, e⟩ := fitL_some ef
    subst e
    refine ⟨by rw [rx.length]; exact hz, fun p hp => ?_⟩
    obtain ⟨a1, a2⟩ := rp_lst_new R1 rx hp
    exact h1 _ _ _ a1 (Same.refl _) a2
end
end DL
set_option Elab.async false
set_option linter.all false
set_option maxRecDepth 100000
set_option maxHeartbeats 4000000
namespace DL
open PySem PySem.Spec PyProof.Rows L2
/-! ### data as the library reads it -/
section
variable {X : Cx} {pins : List (Addr × Obj)} {σ : L2.St} {F H : Hp} {s : Shared}
mutual
theorem rp_reads (I : Inv X pins σ H s) (e : Same F H) : ∀ (d : D) (v : V) (u : Value), Rp X.K F d v → RelV v u → d.plain = true → ∃ as, Reads s.heap u d as
  | .none, _, _, .non, r, _ => by
    cases r
    exact ⟨_, Reads.none⟩
  | .bool b, _, _, .bl _, r, _ => by
    cases r
    exact ⟨_, Reads.bool b⟩
  | .int i, _, _, .int _, r, _ => by
    obtain ⟨t, rfl⟩ := r
    exact ⟨_, Reads.int i t⟩
  | .str x, _, _, .str _, r, _ => by
    obtain ⟨t, rfl⟩ := r
    exact ⟨_, Reads.str x t⟩
  | .list ds, _, _, .lst h ha, r, hp => by
    cases r
    obtain ⟨its, rv, ⟨o, n, ho, hc, _, hd⟩, _⟩ := I.list (.inl (.inl (e _ _ h)))
    obtain ⟨as, hr⟩ := rps_reads I e ds _ its ha rv (by simpa [PyData.plain] using hp)
    exact ⟨_, Reads.list ho hc hd hr⟩
  | .tuple ds, _, _, .tup h ha, r, hp => by
    cases r
    obtain ⟨its, rv, ⟨o, ho, hc, n, hd⟩, _⟩ := I.tuple (sqt_same e h)
    obtain ⟨as, hr⟩ := rps_reads I e ds _ its ha rv (by simpa [PyData.plain] using hp)
    exact ⟨_, Reads.tuple ho hc hd hr⟩
  | .dict _, _, _, _, _, hp => by
    simp [PyData.plain] at hp
theorem rps_reads (I : Inv X pins σ H s) (e : Same F H) : ∀ (ds : List D) (vs : List V) (us : List Value), Rps X.K F ds vs → Vals vs us → PyData.plainAll ds = true → ∃ as, ReadsAll s.heap us ds as
  | [], _, _, .nil, r, _ => by
    cases r
    exact ⟨_, ReadsAll.nil⟩
  | d :: ds, _, _, .cons h1 h2, r, hp => by
    cases r with
    | cons r1 r2 =>
      have hp' : d.plain = true ∧ PyData.plainAll ds = true := by simpa [PyData.plainAll] using hp
      obtain ⟨as, q1⟩ := rp_reads I e d _ _ h1 r1 hp'.1
      obtain ⟨bs, q2⟩ := rps_reads I e ds _ _ h2 r2 hp'.2
      exact ⟨_, ReadsAll.cons q1 q2⟩
end
end
/-! ### what can be read now: a datum, or an object that is nobody's yet or a slot's -/
def RdP (K : Frg) (F H : Hp) (d : D) (v : V) : Prop := Rp K F d v ∨ ∃ a o c, v = .ref a ∧ H a = some o ∧ OR K F c o ∧ d = c.toD
theorem RdP.view {K : Frg} {F H : Hp} {d : D} {v : V} (h : RdP K F H d v) (e : Same F H) : ∃ G, Same F G ∧ Same G H ∧ Rp K G d v := by
  rcases h with h | ⟨a, o, c, rfl, h1, h2, rfl⟩
  · exact ⟨F, Same.refl F, e, h⟩
  · have k1 : Same F (upd F a o) := fun b u q => by
      by_cases hb : b = a
      · rw [hb] at q ⊢
        rw [upd_same, ← h1]
        exact e a u q
      · rw [upd_ne hb]
        exact q
    refine ⟨upd F a o, k1, fun b u q => ?_, (h2.mono k1).rp upd_same⟩
    by_cases hb : b = a
    · rw [hb, upd_same] at q
      rw [hb, h1, q]
    · rw [upd_ne hb] at q
      exact e b u q
theorem RdP.list {K : Frg} {F H : Hp} {ds : List D} {v : V} (h : RdP K F H (.list ds) v) (e : Same F H) : ∃ a vs, v = .ref a ∧ H a = some (.lst vs) ∧ Rps K F ds vs := by
  rcases h with h | ⟨a, o, c, rfl, h1, h2, h3⟩
  · cases h with
    | lst h r => exact ⟨_, _, rfl, e _ _ h, r⟩
  · cases h2 with
    | l r =>
      simp only [OC.toD, PyData.list.injEq] at h3
      subst h3
      exact ⟨a, _, rfl, h1, r⟩
    | m r => simp [OC.toD] at h3
theorem RdP.tuple {K : Frg} {F H : Hp} {ds : List D} {v : V} (h : RdP K F H (.tuple ds) v) : ∃ a vs, v = .ref a ∧ SqT K F a vs ∧ Rps K F ds vs := by
  rcases h with h | ⟨a, o, c, rfl, h1, h2, h3⟩
  · cases h with
    | tup h r => exact ⟨_, _, rfl, h, r⟩
  · cases h2 <;> simp [OC.toD] at h3
/-- a sequence's items -/
def dSeq : D → Option (List D)
  | .list xs => some xs
  | .tuple xs => some xs
  | _ => none
theorem RdP.seq {K : Frg} {F H : Hp} {d : D} {ds : List D} {v : V} (h : RdP K F H d v) (e : Same F H) (hs : dSeq d = some ds) : ∃ a vs, v = .ref a ∧ (SqL K H a vs ∨ SqT K H a vs) ∧ Rps K F ds vs := by
  cases d <;> simp [dSeq] at hs
  · subst hs
    obtain ⟨a, vs, h1, h2, h3⟩ := h.list e
    exact ⟨a, vs, h1, .inl (.inl (.inl h2)), h3⟩
  · subst hs
    obtain ⟨a, vs, h1, h2, h3⟩ := h.tuple
    exact ⟨a, vs, h1, .inr (sqt_same e h2), h3⟩
abbrev ρP (K : Frg) : Hp → Hp → SS → D → V → Prop := fun F' H' _ d v => RdP K F' H' d v
/-- the expression e can be read as the datum that g tells, at once -/
def EP (X : Cx) (S : Sx) (W : WX) (e : Expr) (g : SS → R D) : Prop :=
  ∃ t, PE X e t ∧ ∀ Y A σ H δ F Q, Rel X.K S Y F A H σ δ → Run X.K X.mg S Y A σ W (ρP X.K) F (g δ) Q → t σ H Q
section
variable {X : Cx} {S : Sx} {W : WX} {a b e : Expr} {es : List Expr} {pos : Pos} {ga gb : SS → R D}
theorem ep_of (h : EV X S W e ga) : EP X S W e ga := by
  obtain ⟨t, p, q⟩ := h
  refine ⟨t, p, fun Y A σ H δ F Q Rl hr => q _ _ _ _ _ _ _ Rl ?_⟩
  cases hg : ga δ with
  | bad =>
    rw [hg] at hr
    exact hr
  | ok d δ' =>
    rw [hg] at hr
    exact fun b H' F' R' s' r => hr b H' F' R' s' (.inl r)
  | ex c f x δ' =>
    rw [hg] at hr
    exact hr
theorem ep_new {g : SS → R OC} (h : EO X S W e g) : EP X S W e (gD g) := by
  obtain ⟨t, p, q⟩ := h
  refine ⟨t, p, fun Y A σ H δ F Q Rl hr => q _ _ _ _ _ _ _ Rl ?_⟩
  cases hg : g δ with
  | bad =>
    unfold gD at hr
    rw [hg] at hr
    exact hr
  | ok d δ' =>
    unfold gD at hr
    rw [hg] at hr
    exact fun b H' F' R' s' ⟨p, o, e1, e2, r, fr⟩ => hr b H' F' R' s' (.inr ⟨p, o, d, e1, e2, r, rfl⟩)
  | ex c f x δ' =>
    unfold gD at hr
    rw [hg] at hr
    exact hr
/-- an own object by its name -/
def gOwn (i : Nat) : SS → R D := fun δ => match δ[i]? with
  | some (some (.o c)) => .ok c.toD δ
  | _ => .bad
theorem ep_own (i : Nat) {x : Str} (hN : X.N[i]? = some x := by rfl) (hv : Vis X.env.scope x := by first | exact Or.inl rfl | exact Or.inr (Or.inl rfl) | exact Or.inr (Or.inr rfl)) (hd : (x == ("__debug__" : Str)) = false := by decide)
    (hcd : (x == ("__classdict__" : Str)) = false := by decide) : EP X S W (.Name x pos) (gOwn i) := by
  refine ⟨_, pe_var hN hv hd hcd, fun Y A σ H δ F Q Rl h => ?_⟩
  show ∃ v, σ[i]? = some (some v) ∧ Q v H
  unfold gOwn at h
  split at h
  · rename_i c e
    obtain ⟨o, h1, h2, h3⟩ := Rl.own_at e
    exact ⟨_, h1, opt_run h Rl (.inr ⟨_, o, c, rfl, h2, h3, rfl⟩)⟩
  · exact h.elim
/-- two places, the right one read at once -/
def OpRd (X : Cx) (S : Sx) (r : R2) (f : D → D → Option D) : Prop := ∀ Y A σ H δ F v u x y d Q, Rel X.K S Y F A H σ δ → RdP X.K F H x v → RdP X.K F H y u → f x y = some d →
  (∀ w, Rp X.K F d w → Q w H) → r v u H Q
theorem OpRd.ok {r : R2} {f : D → D → Option D} (h : OpRd X S r f) : OpOk X S r f := fun Y A σ H δ F v u x y d Q Rl rx ry e q =>
  h _ _ _ _ _ _ _ _ _ _ _ _ Rl (.inl rx) (.inl ry) e fun w rw' => q w H F Rl (Same.refl F) rw'
theorem opR_run {r : R2} {f : D → D → Option D} {ta tb : TE} (hf : OpRd X S r f)
    (qa : ∀ Y A σ H δ F Q, Rel X.K S Y F A H σ δ → Run X.K X.mg S Y A σ W (ρD X.K) F (ga δ) Q → ta σ H Q) (qb : ∀ Y A σ H δ F Q, Rel X.K S Y F A H σ δ → Run X.K X.mg S Y A σ W (ρP X.K) F (gb δ) Q → tb σ H Q) :
    ∀ Y A σ H δ F Q, Rel X.K S Y F A H σ δ → Run X.K X.mg S Y A σ W (ρD X.K) F (gOp f ga gb δ) Q → tOp r ta tb σ H Q := fun Y A σ H δ F Q Rl h => by
  refine qa _ _ _ _ _ _ _ Rl (Run.bind h fun x δ1 v H1 F1 e R1 s1 rx h1 => ?_)
  refine qb _ _ _ _ _ _ _ R1 (Run.bind h1 fun y δ2 u H2 F2 e2 R2 s2 ry h2 => ?_)
  obtain ⟨d, ed, q⟩ := Run.opt h2
  exact hf _ _ _ _ _ _ _ _ _ _ _ _ R2 (.inl (rx.mono s2)) ry ed fun w rw' => q w _ _ R2 (Same.refl _) rw'
theorem ev_cmpR {op : CmpOp} {r : R2} {f : D → D → Option D} (ho : OpR X (compareOp op) r) (hf : OpRd X S r f) (ha : EV X S W a ga) (hb : EP X S W b gb) (hm : behindInMarks op b = false := by first | exact nomark _ | rfl) : EV X S W (.Compare a [op] [b] pos) (gOp f ga gb) := by
  obtain ⟨ta, pa, qa⟩ := ha
  obtain ⟨tb, pb, qb⟩ := hb
  exact ⟨_, pe_cmpR ho pa pb hm, opR_run hf qa qb⟩
theorem tv_cmpR {op : CmpOp} {r : R2} {f : D → D → Option D} (ho : OpR X (compareOp op) r) (hf : OpRd X S r f) (ha : EV X S W a ga) (hb : EP X S W b gb) (hm : behindInMarks op b = false := by first | exact nomark _ | rfl) : TV X S W (.Compare a [op] [b] pos) (gT (gOp f ga gb)) := by
  obtain ⟨ta, pa, qa⟩ := ha
  obtain ⟨tb, pb, qb⟩ := hb
  exact ⟨_, pt_cmpR ho pa pb hm, gT_run (opR_run hf qa qb)⟩
/-- the left one an own object's name -/
def gOpO (f : D → D → Option D) (i : Nat) (gb : SS → R D) : SS → R D := fun δ => (gb δ).bind fun y δ2 => (gOwn i δ2).bind fun x _ => R.opt (f x y) δ2
theorem opO_run {r : R2} {f : D → D → Option D} {i : Nat} {tb : TE} (hf : OpRd X S r f)
    (qb : ∀ Y A σ H δ F Q, Rel X.K S Y F A H σ δ → Run X.K X.mg S Y A σ W (ρD X.K) F (gb δ) Q → tb σ H Q) :
    ∀ Y A σ H δ F Q, Rel X.K S Y F A H σ δ → Run X.K X.mg S Y A σ W (ρD X.K) F (match δ[i]? with | some (some (.o _)) => gOpO f i gb δ | _ => .bad) Q → tOp r (tVar i) tb σ H Q := fun Y A σ H δ F Q Rl h => by
  split at h
  · rename_i c e
    obtain ⟨o, h1, h2, h3⟩ := Rl.own_at e
    refine ⟨_, h1, ?_⟩
    refine qb _ _ _ _ _ _ _ Rl (Run.bind h fun y δ2 u H2 F2 e2 R2 s2 ry h2 => ?_)
    unfold gOwn at h2
    split at h2
    · rename_i c2 e3
      obtain ⟨o2, g1, g2, g3⟩ := R2.own_at e3
      obtain ⟨d, ed, q⟩ := Run.opt (show Run X.K X.mg S Y A σ W (ρD X.K) F2 (R.opt (f c2.toD y) δ2) Q from h2)
      exact hf _ _ _ _ _ _ _ _ _ _ _ _ R2 (.inr ⟨_, o2, c2, rfl, g2, g3, rfl⟩) (.inl ry) ed fun w rw' => q w _ _ R2 (Same.refl _) rw'
    · exact h2.elim
  · exact h.elim
def gOpL (f : D → D → Option D) (i : Nat) (gb : SS → R D) : SS → R D := fun δ => match δ[i]? with | some (some (.o _)) => gOpO f i gb δ | _ => .bad
theorem ev_cmpO {op : CmpOp} {r : R2} {f : D → D → Option D} (i : Nat) {x : Str} {p : Pos} (ho : OpR X (compareOp op) r) (hf : OpRd X S r f) (hb : EV X S W b gb) (hm : behindInMarks op b = false := by first | exact nomark _ | rfl) (hN : X.N[i]? = some x := by rfl) (hv : Vis X.env.scope x := by first | exact Or.inl rfl | exact Or.inr (Or.inl rfl) | exact Or.inr (Or.inr rfl)) (hd : (x == ("__debug__" : Str)) = false := by decide)
    (hcd : (x == ("__classdict__" : Str)) = false := by decide) : EV X S W (.Compare (.Name x p) [op] [b] pos) (gOpL f i gb) := by
  obtain ⟨tb, pb, qb⟩ := hb
  exact ⟨_, pe_cmpR ho (pe_var hN hv hd hcd) pb hm, opO_run hf qb⟩
theorem tv_cmpO {op : CmpOp} {r : R2} {f : D → D → Option D} (i : Nat) {x : Str} {p : Pos} (ho : OpR X (compareOp op) r) (hf : OpRd X S r f) (hb : EV X S W b gb) (hm : behindInMarks op b = false := by first | exact nomark _ | rfl) (hN : X.N[i]? = some x := by rfl) (hv : Vis X.env.scope x := by first | exact Or.inl rfl | exact Or.inr (Or.inl rfl) | exact Or.inr (Or.inr rfl)) (hd : (x == ("__debug__" : Str)) = false := by decide)
    (hcd : (x == ("__classdict__" : Str)) = false := by decide) : TV X S W (.Compare (.Name x p) [op] [b] pos) (gT (gOpL f i gb)) := by
  obtain ⟨tb, pb, qb⟩ := hb
  exact ⟨_, pt_cmpR ho (pe_var hN hv hd hcd) pb hm, gT_run (opO_run hf qb)⟩
/-! ### the operators' answers -/
def fI (g : Int → Int → Option D) : D → D → Option D
  | .int i, .int j => g i j
  | _, _ => none
theorem rd_int {K : Frg} {F H : Hp} {i : Int} {v : V} (h : RdP K F H (.int i) v) : v = .int i := by
  rcases h with h | ⟨_, _, c, _, _, _, e⟩
  · cases h
    rfl
  · cases c <;> simp [OC.toD] at e
theorem rd_str {K : Frg} {F H : Hp} {i : Str} {v : V} (h : RdP K F H (.str i) v) : v = .str i := by
  rcases h with h | ⟨_, _, c, _, _, _, e⟩
  · cases h
    rfl
  · cases c <;> simp [OC.toD] at e
theorem rd_bl {K : Frg} {F H : Hp} {i : Bool} {v : V} (h : RdP K F H (.bool i) v) : v = .bl i := by
  rcases h with h | ⟨_, _, c, _, _, _, e⟩
  · cases h
    rfl
  · cases c <;> simp [OC.toD] at e
def isNoneD : D → Bool
  | .none => true
  | _ => false
theorem rd_non {K : Frg} {F H : Hp} {d : D} {v : V} (h : RdP K F H d v) : decide (v = .non) = isNoneD d := by
  rcases h with h | ⟨_, _, c, rfl, _, _, rfl⟩
  · cases h <;> rfl
  · cases c <;> rfl
theorem fI_some {g : Int → Int → Option D} {x y d : D} (h : fI g x y = some d) : ∃ i j, x = .int i ∧ y = .int j ∧ g i j = some d := by
  cases x <;> cases y <;> simp [fI] at h
  exact ⟨_, _, rfl, rfl, h⟩
theorem rd_i0 {g : Int → Int → V} {f : Int → Int → Option D} (h : ∀ K F i j d, f i j = some d → Rp K F d (g i j)) : OpRd X S (rI0 g) (fI f) := fun Y A σ H δ F v u x y d Q Rl rx ry e q => by
  obtain ⟨i, j, rfl, rfl, e'⟩ := fI_some e
  exact ⟨i, j, rd_int rx, rd_int ry, q _ (h _ _ _ _ _ e')⟩
theorem rd_i {C : Int → Int → Prop} {g : Int → Int → V} {f : Int → Int → Option D} (h : ∀ K F i j d, f i j = some d → C i j ∧ Rp K F d (g i j)) : OpRd X S (rI C g) (fI f) := fun Y A σ H δ F v u x y d Q Rl rx ry e q => by
  obtain ⟨i, j, rfl, rfl, e'⟩ := fI_some e
  obtain ⟨h1, h2⟩ := h X.K F _ _ _ e'
  exact ⟨i, j, rd_int rx, rd_int ry, h1, q _ h2⟩
def dSub : D → D → Option D := fI fun i j => some (.int (i - j))
theorem rd_sub : OpRd X S (rI0 fun i j => .int (i - j)) dSub := rd_i0 fun _ _ i j d h => by
  cases h
  exact .int _
def dDiv : D → D → Option D := fI fun i j => if 0 < j ∧ j < 1073741824 then some (.int (i / j)) else none
theorem rd_div : OpRd X S (rI CDiv fun i j => .int (i / j)) dDiv := rd_i fun _ _ i j d h => by
  split at h
  · rename_i hc
    cases h
    exact ⟨hc, .int _⟩
  · cases h
def dMod : D → D → Option D := fI fun i j => if 0 < j then some (.int (i % j)) else none
theorem rd_mod : OpRd X S (rI (fun _ j => 0 < j) fun i j => .int (i % j)) dMod := rd_i fun _ _ i j d h => by
  split at h
  · rename_i hc
    cases h
    exact ⟨hc, .int _⟩
  · cases h
def dPow : D → D → Option D := fI fun i j => if 0 ≤ j ∧ j ≤ 1000000 ∧ i.natAbs < 2 ^ 64 then some (.int (i ^ j.toNat)) else none
theorem rd_pow : OpRd X S (rI CPow fun i j => .int (i ^ j.toNat)) dPow := rd_i fun _ _ i j d h => by
  split at h
  · rename_i hc
    cases h
    exact ⟨hc, .int _⟩
  · cases h
/-! order: ints, texts, alike tuples and lists -/
def ordB (x y : D) : Bool := PySem.W.alike x y && x.plain && y.plain && decide (x.depth ≤ 64) && (match x with | .none => false | _ => true)
def rOrd (K : Frg) (f : D → D → Bool) : R2 := fun v u H Q => ∃ (F : Hp) (x y : D), Same F H ∧ Rp K F x v ∧ Rp K F y u ∧ ordB x y = true ∧ Q (.bl (f x y)) H
theorem ord_facts {x y : D} (h : ordB x y = true) : PySem.W.alike x y = true ∧ x.plain = true ∧ y.plain = true ∧ x.depth ≤ 64 ∧ x ≠ .none := by
  unfold ordB at h
  simp only [Bool.and_eq_true, decide_eq_true_eq] at h
  obtain ⟨⟨⟨⟨h1, h2⟩, h3⟩, h4⟩, h5⟩ := h
  refine ⟨h1, h2, h3, h4, fun e => ?_⟩
  subst e
  cases h5
theorem op_ltD (hu : X.A.units + 64 < cLine) : OpR X (compareOp .Lt) (rOrd X.K PySem.W.dataLt) := by
  intro pins s σ H x y v u Q I rx ry h
  obtain ⟨F, d, e, k, r1, r2, ho, q⟩ := h
  obtain ⟨h1, h2, h3, h4, h5⟩ := ord_facts ho
  obtain ⟨as, q1⟩ := rp_reads I k d x v r1 rx h2
  obtain ⟨bs, q2⟩ := rp_reads I k e y u r2 ry h3
  exact PySem.W.lt_data q1 q2 h1 h5 (by have := Nat.min_le_left d.depth e.depth; omega) ⟨.bl _, H, I, rfl, q⟩
theorem op_gtD (hu : X.A.units + 64 < cLine) : OpR X (compareOp .Gt) (rOrd X.K fun x y => PySem.W.dataLt y x) := by
  intro pins s σ H x y v u Q I rx ry h
  obtain ⟨F, d, e, k, r1, r2, ho, q⟩ := h
  obtain ⟨h1, h2, h3, h4, h5⟩ := ord_facts ho
  obtain ⟨as, q1⟩ := rp_reads I k d x v r1 rx h2
  obtain ⟨bs, q2⟩ := rp_reads I k e y u r2 ry h3
  exact PySem.W.gt_data q1 q2 h1 h5 (by have := Nat.min_le_left d.depth e.depth; omega) ⟨.bl _, H, I, rfl, q⟩
theorem op_leD (hu : X.A.units + 64 < cLine) : OpR X (compareOp .LtE) (rOrd X.K fun x y => !PySem.W.dataLt y x) := by
  intro pins s σ H x y v u Q I rx ry h
  obtain ⟨F, d, e, k, r1, r2, ho, q⟩ := h
  obtain ⟨h1, h2, h3, h4, h5⟩ := ord_facts ho
  obtain ⟨as, q1⟩ := rp_reads I k d x v r1 rx h2
  obtain ⟨bs, q2⟩ := rp_reads I k e y u r2 ry h3
  exact PySem.W.le_data q1 q2 h1 h5 (by have := Nat.min_le_left d.depth e.depth; omega) ⟨.bl _, H, I, rfl, q⟩
theorem op_geD (hu : X.A.units + 64 < cLine) : OpR X (compareOp .GtE) (rOrd X.K fun x y => !PySem.W.dataLt x y) := by
  intro pins s σ H x y v u Q I rx ry h
  obtain ⟨F, d, e, k, r1, r2, ho, q⟩ := h
  obtain ⟨h1, h2, h3, h4, h5⟩ := ord_facts ho
  obtain ⟨as, q1⟩ := rp_reads I k d x v r1 rx h2
  obtain ⟨bs, q2⟩ := rp_reads I k e y u r2 ry h3
  exact PySem.W.ge_data q1 q2 h1 h5 (by have := Nat.min_le_left d.depth e.depth; omega) ⟨.bl _, H, I, rfl, q⟩
def dOrd (f : D → D → Bool) : D → D → Option D := fun x y => if ordB x y = true then some (.bool (f x y)) else none
theorem view2 {K : Frg} {F H : Hp} {x y : D} {v u : V} (rx : RdP K F H x v) (ry : RdP K F H y u) (e : Same F H) : ∃ G, Same G H ∧ Rp K G x v ∧ Rp K G y u := by
  obtain ⟨G1, a1, a2, a3⟩ := rx.view e
  have ry' : RdP K G1 H y u := by
    rcases ry with h | ⟨a, o, c, e1, e2, e3, e4⟩
    · exact .inl (h.mono a1)
    · exact .inr ⟨a, o, c, e1, e2, e3.mono a1, e4⟩
  obtain ⟨G2, b1, b2, b3⟩ := ry'.view a2
  exact ⟨G2, b2, a3.mono b1, b3⟩
theorem rd_ord {f : D → D → Bool} : OpRd X S (rOrd X.K f) (dOrd f) := fun Y A σ H δ F v u x y d Q Rl rx ry e q => by
  unfold dOrd at e
  split at e
  · rename_i ho
    cases e
    obtain ⟨G, b1, b2, b3⟩ := view2 rx ry Rl.sub
    exact ⟨G, x, y, b1, b2, b3, ho, q _ (.bl _)⟩
  · cases e
abbrev dLt : D → D → Option D := dOrd PySem.W.dataLt
abbrev dGt : D → D → Option D := dOrd fun x y => PySem.W.dataLt y x
abbrev dLe : D → D → Option D := dOrd fun x y => !PySem.W.dataLt y x
abbrev dGe : D → D → Option D := dOrd fun x y => !PySem.W.dataLt x y
/-! == and != -/
def eqB (x y : D) : Bool := x.plain && y.plain && decide (x.depth ≤ 64)
def rEqP (K : Frg) (f : D → D → Bool) : R2 := fun v u H Q => ∃ (F : Hp) (x y : D), Same F H ∧ Rp K F x v ∧ Rp K F y u ∧ eqB x y = true ∧ Q (.bl (f x y)) H
theorem eq_facts {x y : D} (h : eqB x y = true) : x.plain = true ∧ y.plain = true ∧ x.depth ≤ 64 := by
  unfold eqB at h
  simp only [Bool.and_eq_true, decide_eq_true_eq] at h
  exact ⟨h.1.1, h.1.2, h.2⟩
theorem op_eqP (hu : X.A.units + 64 < cLine) : OpR X (compareOp .Eq) (rEqP X.K PyData.eqv) := by
  intro pins s σ H x y v u Q I rx ry h
  obtain ⟨F, d, e, k, r1, r2, ho, q⟩ := h
  obtain ⟨h1, h2, h3⟩ := eq_facts ho
  obtain ⟨as, q1⟩ := rp_reads I k d x v r1 rx h1
  obtain ⟨bs, q2⟩ := rp_reads I k e y u r2 ry h2
  exact PySem.SeqAt.eq_plain q1 q2 h1 h2 (by have := Nat.min_le_left d.depth e.depth; omega) ⟨.bl _, H, I, rfl, q⟩
theorem op_neP (hu : X.A.units + 64 < cLine) : OpR X (compareOp .NotEq) (rEqP X.K fun x y => !PyData.eqv x y) := by
  intro pins s σ H x y v u Q I rx ry h
  obtain ⟨F, d, e, k, r1, r2, ho, q⟩ := h
  obtain ⟨h1, h2, h3⟩ := eq_facts ho
  obtain ⟨as, q1⟩ := rp_reads I k d x v r1 rx h1
  obtain ⟨bs, q2⟩ := rp_reads I k e y u r2 ry h2
  exact PySem.SeqAt.ne_plain q1 q2 h1 h2 (by have := Nat.min_le_left d.depth e.depth; omega) ⟨.bl _, H, I, rfl, q⟩
def dEqF (f : D → D → Bool) : D → D → Option D := fun x y => if eqB x y = true then some (.bool (f x y)) else none
theorem rd_eq {f : D → D → Bool} : OpRd X S (rEqP X.K f) (dEqF f) := fun Y A σ H δ F v u x y d Q Rl rx ry e q => by
  unfold dEqF at e
  split at e
  · rename_i ho
    cases e
    obtain ⟨G, b1, b2, b3⟩ := view2 rx ry Rl.sub
    exact ⟨G, x, y, b1, b2, b3, ho, q _ (.bl _)⟩
  · cases e
abbrev dEq : D → D → Option D := dEqF PyData.eqv
abbrev dNe : D → D → Option D := dEqF fun x y => !PyData.eqv x y
/-! in, not in -/
def inB (x y : D) : Bool := x.plain && y.plain && decide (y.depth ≤ 60) && (match y with | .list _ => true | .tuple _ => true | _ => false)
def rInP (K : Frg) (f : D → D → Bool) : R2 := fun v u H Q => ∃ (F : Hp) (x y : D), Same F H ∧ Rp K F x v ∧ Rp K F y u ∧ inB x y = true ∧ Q (.bl (f x y)) H
def isIn (x y : D) : Bool := match dSeq y with
  | some ds => ds.any fun z => PyData.eqv z x
  | none => false
theorem op_inP (hu : X.A.units + 64 < cLine) : OpR X (compareOp .In) (rInP X.K isIn) := by
  intro pins s σ H x y v u Q I rx ry h
  obtain ⟨F, d, e, k, r1, r2, ho, q⟩ := h
  unfold inB at ho
  simp only [Bool.and_eq_true, decide_eq_true_eq] at ho
  obtain ⟨⟨⟨h1, h2⟩, h3⟩, h4⟩ := ho
  obtain ⟨as, q1⟩ := rp_reads I k d x v r1 rx h1
  obtain ⟨bs, q2⟩ := rp_reads I k e y u r2 ry h2
  cases e with
  | list ds =>
    have hd : PyData.depthAll ds + 1 ≤ 60 := by simpa [PyData.depth] using h3
    exact PySem.SeqAt.in_list_data q2 q1 (by simpa [PyData.plain] using h2) h1 (by have := Nat.min_le_left (PyData.depthAll ds) d.depth; omega) ⟨.bl _, H, I, rfl, q⟩
  | tuple ds =>
    have hd : PyData.depthAll ds + 1 ≤ 60 := by simpa [PyData.depth] using h3
    exact PySem.SeqAt.in_tuple_data q2 q1 (by simpa [PyData.plain] using h2) h1 (by have := Nat.min_le_left (PyData.depthAll ds) d.depth; omega) ⟨.bl _, H, I, rfl, q⟩
  | _ => cases h4
theorem op_notInP (hu : X.A.units + 64 < cLine) : OpR X (compareOp .NotIn) (rInP X.K fun x y => !isIn x y) := by
  intro pins s σ H x y v u Q I rx ry h
  obtain ⟨F, d, e, k, r1, r2, ho, q⟩ := h
  unfold inB at ho
  simp only [Bool.and_eq_true, decide_eq_true_eq] at ho
  obtain ⟨⟨⟨h1, h2⟩, h3⟩, h4⟩ := ho
  obtain ⟨as, q1⟩ := rp_reads I k d x v r1 rx h1
  obtain ⟨bs, q2⟩ := rp_reads I k e y u r2 ry h2
  cases e with
  | list ds =>
    have hd : PyData.depthAll ds + 1 ≤ 60 := by simpa [PyData.depth] using h3
    exact PySem.SeqAt.notIn_list_data q2 q1 (by simpa [PyData.plain] using h2) h1 (by have := Nat.min_le_left (PyData.depthAll ds) d.depth; omega) ⟨.bl _, H, I, rfl, q⟩
  | tuple ds =>
    have hd : PyData.depthAll ds + 1 ≤ 60 := by simpa [PyData.depth] using h3
    exact PySem.SeqAt.notIn_tuple_data q2 q1 (by simpa [PyData.plain] using h2) h1 (by have := Nat.min_le_left (PyData.depthAll ds) d.depth; omega) ⟨.bl _, H, I, rfl, q⟩
  | _ => cases h4
def dInF (f : D → D → Bool) : D → D → Option D := fun x y => if inB x y = true then some (.bool (f x y)) else none
theorem rd_in {f : D → D → Bool} : OpRd X S (rInP X.K f) (dInF f) := fun Y A σ H δ F v u x y d Q Rl rx ry e q => by
  unfold dInF at e
  split at e
  · rename_i ho
    cases e
    obtain ⟨G, b1, b2, b3⟩ := view2 rx ry Rl.sub
    exact ⟨G, x, y, b1, b2, b3, ho, q _ (.bl _)⟩
  · cases e
abbrev dIn : D → D → Option D := dInF isIn
abbrev dNotIn : D → D → Option D := dInF fun x y => !isIn x y
/-! is None, is True -/
def dIsN : D → D → Option D
  | x, .none => some (.bool (isNoneD x))
  | _, _ => none
def dNotN : D → D → Option D
  | x, .none => some (.bool (!isNoneD x))
  | _, _ => none
theorem rd_none {K : Frg} {F H : Hp} {v : V} (h : RdP K F H .none v) : v = .non := by
  rcases h with h | ⟨_, _, c, _, _, _, e⟩
  · cases h
    rfl
  · cases c <;> simp [OC.toD] at e
theorem rd_isN : OpRd X S (fun x y H Q => y = .non ∧ Q (.bl (decide (x = .non))) H) dIsN := fun Y A σ H δ F v u x y d Q Rl rx ry e q => by
  cases y <;> simp [dIsN] at e
  subst e
  refine ⟨rd_none ry, ?_⟩
  rw [rd_non rx]
  exact q _ (.bl _)
theorem rd_notN : OpRd X S (fun x y H Q => y = .non ∧ Q (.bl (!decide (x = .non))) H) dNotN := fun Y A σ H δ F v u x y d Q Rl rx ry e q => by
  cases y <;> simp [dNotN] at e
  subst e
  refine ⟨rd_none ry, ?_⟩
  rw [rd_non rx]
  exact q _ (.bl _)
def dIsB : D → D → Option D
  | .bool x, .bool y => some (.bool (decide (x = y)))
  | _, _ => none
def dNotB : D → D → Option D
  | .bool x, .bool y => some (.bool (!decide (x = y)))
  | _, _ => none
theorem rd_isB : OpRd X S rIsB dIsB := fun Y A σ H δ F v u x y d Q Rl rx ry e q => by
  cases x <;> cases y <;> simp [dIsB] at e
  subst e
  exact ⟨_, _, rd_bl rx, rd_bl ry, q _ (.bl _)⟩
theorem rd_notB : OpRd X S rNotB dNotB := fun Y A σ H δ F v u x y d Q Rl rx ry e q => by
  cases x <;> cases y <;> simp [dNotB] at e
  subst e
  exact ⟨_, _, rd_bl rx, rd_bl ry, q _ (.bl _)⟩
/-! ### +, * -/
def rAddD (K : Frg) : R2 := fun x y H Q => (∃ i j, x = .int i ∧ y = .int j ∧ Q (.int (i + j)) H) ∨ (∃ i j, x = .str i ∧ y = .str j ∧ i.length + j.length ≤ sizeLine ∧ Q (.str (i ++ j)) H) ∨ rCatA K x y H Q ∨ rCat x y H Q
theorem op_addD : OpR X (binaryOp .Add) (rAddD X.K) := OpR.or op_add (OpR.or op_add_str (OpR.or op_catA op_cat))
def dAdd : D → D → Option D
  | .int i, .int j => some (.int (i + j))
  | .str i, .str j => if i.length + j.length ≤ sizeLine then some (.str (i ++ j)) else none
  | .tuple xs, .tuple ys => if xs.length + ys.length ≤ sizeLine then some (.tuple (xs ++ ys)) else none
  | .list xs, .list ys => if xs.length + ys.length ≤ sizeLine then some (.list (xs ++ ys)) else none
  | _, _ => none
theorem ok_add : OpOk X S (rAddD X.K) dAdd := fun Y A σ H δ F v u x y d Q Rl rx ry e q => by
  cases rx with
  | int i => cases ry <;> simp [dAdd] at e
             rename_i j
             subst e
             exact .inl ⟨i, j, rfl, rfl, q _ _ _ Rl (Same.refl F) (.int _)⟩
  | str i => cases ry <;> simp [dAdd] at e
             rename_i j
             obtain ⟨hz, e⟩ := e
             subst e
             exact .inr (.inl ⟨i, j, rfl, rfl, hz, q _ _ _ Rl (Same.refl F) (.str _)⟩)
  | tup hx r => cases ry <;> simp [dAdd] at e
                rename_i hy r2
                obtain ⟨hz, e⟩ := e
                subst e
                refine .inr (.inr (.inl ⟨_, _, _, _, rfl, rfl, sqt_same Rl.sub hx, sqt_same Rl.sub hy, by rw [r.length, r2.length]; exact hz, fun e1 => ?_, fun _ e1 => ?_, fun _ _ p hp => ?_⟩))
                · subst e1
                  cases r
                  exact q _ _ _ Rl (Same.refl F) (.tup hy r2)
                · subst e1
                  cases r2
                  rw [List.append_nil] at q
                  exact q _ _ _ Rl (Same.refl F) (.tup hx r)
                · obtain ⟨a1, a2, a3⟩ := rp_tup_lay Rl (r.append r2) hp
                  exact q _ _ _ a1 a2 a3
  | lst hx r => cases ry <;> simp [dAdd] at e
                rename_i hy r2
                obtain ⟨hz, e⟩ := e
                subst e
                refine .inr (.inr (.inr ⟨_, _, _, _, rfl, rfl, Rl.sub _ _ hx, Rl.sub _ _ hy, by rw [r.length, r2.length]; exact hz, fun p hp => ?_⟩))
                have hF := Rl.sub.free hp
                exact q _ _ _ (Rl.lay hp fun _ z => nomatch z) (same_upd hF) (.lst upd_same ((r.append r2).mono (same_upd hF)))
  | _ => simp [dAdd] at e
/-- list + list, a new list; the left one read at once is not served: both are data -/
def OpNew (X : Cx) (S : Sx) (r : R2) (f : D → D → Option OC) : Prop := ∀ Y A σ H δ F v u x y d Q, Rel X.K S Y F A H σ δ → RdP X.K F H x v → RdP X.K F H y u → f x y = some d →
  (∀ w H', Rel X.K S Y F A H' σ δ → ρO X.K S Y A F H' δ d w → Q w H') → r v u H Q
def gOpN (f : D → D → Option OC) (ga gb : SS → R D) : SS → R OC := fun δ => (ga δ).bind fun x δ1 => (gb δ1).bind fun y δ2 => R.opt (f x y) δ2
theorem eo_op {op : Operator} {r : R2} {f : D → D → Option OC} (ho : OpR X (binaryOp op) r) (hf : OpNew X S r f) (ha : EV X S W a ga) (hb : EP X S W b gb) : EO X S W (.BinOp a op b pos) (gOpN f ga gb) := by
  obtain ⟨ta, pa, qa⟩ := ha
  obtain ⟨tb, pb, qb⟩ := hb
  refine ⟨_, pe_op ho pa pb, fun Y A σ H δ F Q Rl h => ?_⟩
  refine qa _ _ _ _ _ _ _ Rl (Run.bind h fun x δ1 v H1 F1 e R1 s1 rx h1 => ?_)
  refine qb _ _ _ _ _ _ _ R1 (Run.bind h1 fun y δ2 u H2 F2 e2 R2 s2 ry h2 => ?_)
  obtain ⟨d, ed, q⟩ := Run.opt h2
  exact hf _ _ _ _ _ _ _ _ _ _ _ _ R2 (.inl (rx.mono s2)) ry ed fun w H' R' r' => q w _ _ R' (Same.refl _) r'
def cCat : D → D → Option OC
  | .list xs, .list ys => if xs.length + ys.length ≤ sizeLine then some (.l (xs ++ ys)) else none
  | _, _ => none
theorem new_cat : OpNew X S rCat cCat := fun Y A σ H δ F v u x y d Q Rl rx ry e q => by
  cases x <;> cases y <;> simp [cCat] at e
  obtain ⟨hz, e⟩ := e
  subst e
  obtain ⟨a1, vs, rfl, h1, r1⟩ := rx.list Rl.sub
  obtain ⟨a2, us, rfl, h2, r2⟩ := ry.list Rl.sub
  refine ⟨_, _, _, _, rfl, rfl, h1, h2, by rw [r1.length, r2.length]; exact hz, fun p hp => ?_⟩
  obtain ⟨b1, b2⟩ := rp_lst_new Rl (r1.append r2) hp
  exact q _ _ b1 b2
def repD (n : Nat) (xs : List D) : List D := (List.replicate n xs).flatten
theorem Rps.rep {K : Frg} {F : Hp} {xs : List D} {vs : List V} (r : Rps K F xs vs) : ∀ n : Nat, Rps K F (repD n xs) (List.replicate n vs).flatten
  | 0 => .nil
  | n + 1 => by
    unfold repD
    rw [List.replicate_succ, List.replicate_succ, List.flatten_cons, List.flatten_cons]
    exact r.append (Rps.rep r n)
def cRep : D → D → Option OC
  | .list xs, .int k => if -(2 ^ 63) ≤ k ∧ k < 2 ^ 63 ∧ xs.length * k.toNat ≤ sizeLine then some (.l (repD k.toNat xs)) else none
  | _, _ => none
theorem new_rep : OpNew X S rRep cRep := fun Y A σ H δ F v u x y d Q Rl rx ry e q => by
  cases x <;> cases y <;> simp only [cRep] at e <;> try (cases e)
  split at e
  · rename_i hz
    cases e
    obtain ⟨a1, vs, rfl, h1, r1⟩ := rx.list Rl.sub
    have e2 := rd_int ry
    subst e2
    refine ⟨_, _, _, rfl, rfl, h1, hz.1, hz.2.1, by rw [r1.length]; exact hz.2.2, fun p hp => ?_⟩
    obtain ⟨b1, b2⟩ := rp_lst_new Rl (r1.rep _) hp
    exact q _ _ b1 b2
  · cases e
def dMul : D → D → Option D := fI fun i j => if (-(2 ^ 64) < i ∧ i < 2 ^ 64) ∨ (-(2 ^ 64) < j ∧ j < 2 ^ 64) then some (.int (i * j)) else none
theorem rd_mul : OpRd X S (rI CMul fun i j => .int (i * j)) dMul := rd_i fun _ _ i j d h => by
  split at h
  · rename_i hc
    cases h
    exact ⟨hc, .int _⟩
  · cases h
/-- a tuple so often -/
def dRepT : D → D → Option D
  | .tuple xs, .int k => if xs ≠ [] ∧ 2 ≤ k ∧ k ≤ 1000 ∧ xs.length ≤ 1000 then some (.tuple (repD k.toNat xs)) else none
  | _, _ => none
theorem ok_repT : OpOk X S (rRepT X.K) dRepT := fun Y A σ H δ F v u x y d Q Rl rx ry e q => by
  cases rx with
  | tup hx r =>
    cases ry with
    | int k =>
      simp only [dRepT] at e
      split at e
      · rename_i hz
        cases e
        refine ⟨_, k, _, rfl, rfl, sqt_same Rl.sub hx, fun z => hz.1 ?_, hz.2.1, hz.2.2.1, by rw [r.length]; exact hz.2.2.2, fun p hp => ?_⟩
        · subst z
          cases r
          rfl
        · obtain ⟨a1, a2, a3⟩ := rp_tup_lay Rl (r.rep _) hp
          exact q _ _ _ a1 a2 a3
      · cases e
    | _ => cases e
  | _ => cases e
/-! ### - x -/
def gUn (f : D → Option D) (g : SS → R D) : SS → R D := fun δ => (g δ).bind fun x δ1 => R.opt (f x) δ1
def dNeg : D → Option D
  | .int i => some (.int (-i))
  | _ => none
theorem ev_neg (h : EV X S W a ga) : EV X S W (.UnaryOp .USub a pos) (gUn dNeg ga) := by
  obtain ⟨t, p, q⟩ := h
  refine ⟨_, pe_un un_neg p, fun Y A σ H δ F Q Rl hr => q _ _ _ _ _ _ _ Rl (Run.bind hr fun x δ1 v H1 F1 _ R1 s1 rx h1 => ?_)⟩
  obtain ⟨d, ed, q'⟩ := Run.opt h1
  cases rx <;> simp [dNeg] at ed
  subst ed
  exact ⟨_, rfl, q' _ _ _ R1 (Same.refl _) (.int _)⟩
end
end DL
set_option Elab.async false
set_option linter.all false
set_option maxRecDepth 100000
set_option maxHeartbeats 4000000
namespace DL
open PySem PySem.Spec PyProof.Rows L2
section
variable {X : Cx} {S : Sx} {W : WX} {a b e : Expr} {es : List Expr} {pos p pos2 : Pos} {ga gb : SS → R D} {fn : Str}
/-! ### built-ins of one argument -/
def C1Ok (X : Cx) (S : Sx) (r : List V → Hp → VK → Prop) (f : D → Option D) : Prop := ∀ Y A σ H δ F v x d Q, Rel X.K S Y F A H σ δ → RdP X.K F H x v → f x = some d →
  (∀ w H' F', Rel X.K S Y F' A H' σ δ → Same F F' → Rp X.K F' d w → Q w H') → r [v] H Q
def C1New (X : Cx) (S : Sx) (r : List V → Hp → VK → Prop) (f : D → Option OC) : Prop := ∀ Y A σ H δ F v x d Q, Rel X.K S Y F A H σ δ → RdP X.K F H x v → f x = some d →
  (∀ w H', Rel X.K S Y F A H' σ δ → ρO X.K S Y A F H' δ d w → Q w H') → r [v] H Q
theorem c1_run {r : List V → Hp → VK → Prop} {f : D → Option D} {te : TE} (hf : C1Ok X S r f) (qa : ∀ Y A σ H δ F Q, Rel X.K S Y F A H σ δ → Run X.K X.mg S Y A σ W (ρP X.K) F (ga δ) Q → te σ H Q) :
    ∀ Y A σ H δ F Q, Rel X.K S Y F A H σ δ → Run X.K X.mg S Y A σ W (ρD X.K) F (gUn f ga δ) Q → tCB r (tCons te tNil) σ H Q := fun Y A σ H δ F Q Rl h => by
  refine qa _ _ _ _ _ _ _ Rl (Run.bind h fun x δ1 v H1 F1 e R1 s1 rx h1 => ?_)
  obtain ⟨d, ed, q⟩ := Run.opt h1
  exact hf _ _ _ _ _ _ _ _ _ _ R1 rx ed fun w H' F' R' s' r' => q w _ _ R' s' r'
theorem c1n_run {r : List V → Hp → VK → Prop} {f : D → Option OC} {te : TE} (hf : C1New X S r f) (qa : ∀ Y A σ H δ F Q, Rel X.K S Y F A H σ δ → Run X.K X.mg S Y A σ W (ρP X.K) F (ga δ) Q → te σ H Q) :
    ∀ Y A σ H δ F Q, Rel X.K S Y F A H σ δ → Run X.K X.mg S Y A σ W (ρO X.K S Y A) F ((ga δ).bind fun x δ1 => R.opt (f x) δ1) Q → tCB r (tCons te tNil) σ H Q := fun Y A σ H δ F Q Rl h => by
  refine qa _ _ _ _ _ _ _ Rl (Run.bind h fun x δ1 v H1 F1 e R1 s1 rx h1 => ?_)
  obtain ⟨d, ed, q⟩ := Run.opt h1
  exact hf _ _ _ _ _ _ _ _ _ _ R1 rx ed fun w H' R' r' => q w _ _ R' (Same.refl _) r'
def gUnN (f : D → Option OC) (g : SS → R D) : SS → R OC := fun δ => (g δ).bind fun x δ1 => R.opt (f x) δ1
theorem ev_b1 {id : String} {r : List V → Hp → VK → Prop} {f : D → Option D} (hc : CallR X (.builtin id) r) (hf : C1Ok X S r f) (hm : X.mg fn = none) (hv : bootBuiltins fn = some (.builtin id)) (h : EP X S W e ga) (hg : Gl X fn := by rfl)
    (hn : fn ≠ "__name__" := by decide) (hdb : (fn == ("__debug__" : Str)) = false := by decide) (hs : starEach [e] X.env = (false, eval e X.env) :: starEach [] X.env := by rfl) : EV X S W (.Call (.Name fn p) [e] [] pos) (gUn f ga) := by
  obtain ⟨t, pe, q⟩ := h
  exact ⟨_, pe_callB hc hg hm hv (pa_cons pe pa_nil hs) hn hdb hs rfl, c1_run hf q⟩
theorem ev_t1 {T : String} {r : List V → Hp → VK → Prop} {f : D → Option D} (hc : CallR X (.type T) r) (hf : C1Ok X S r f) (hm : X.mg fn = none) (hv : bootBuiltins fn = some (.type T)) (h : EP X S W e ga) (hg : Gl X fn := by rfl)
    (hn : fn ≠ "__name__" := by decide) (hdb : (fn == ("__debug__" : Str)) = false := by decide) (hs : starEach [e] X.env = (false, eval e X.env) :: starEach [] X.env := by rfl) : EV X S W (.Call (.Name fn p) [e] [] pos) (gUn f ga) := by
  obtain ⟨t, pe, q⟩ := h
  exact ⟨_, pe_callTy hc hg hm hv (pa_cons pe pa_nil hs) hn hdb hs rfl, c1_run hf q⟩
theorem eo_b1 {id : String} {r : List V → Hp → VK → Prop} {f : D → Option OC} (hc : CallR X (.builtin id) r) (hf : C1New X S r f) (hm : X.mg fn = none) (hv : bootBuiltins fn = some (.builtin id)) (h : EP X S W e ga) (hg : Gl X fn := by rfl)
    (hn : fn ≠ "__name__" := by decide) (hdb : (fn == ("__debug__" : Str)) = false := by decide) (hs : starEach [e] X.env = (false, eval e X.env) :: starEach [] X.env := by rfl) : EO X S W (.Call (.Name fn p) [e] [] pos) (gUnN f ga) := by
  obtain ⟨t, pe, q⟩ := h
  exact ⟨_, pe_callB hc hg hm hv (pa_cons pe pa_nil hs) hn hdb hs rfl, c1n_run hf q⟩
theorem eo_t1 {T : String} {r : List V → Hp → VK → Prop} {f : D → Option OC} (hc : CallR X (.type T) r) (hf : C1New X S r f) (hm : X.mg fn = none) (hv : bootBuiltins fn = some (.type T)) (h : EP X S W e ga) (hg : Gl X fn := by rfl)
    (hn : fn ≠ "__name__" := by decide) (hdb : (fn == ("__debug__" : Str)) = false := by decide) (hs : starEach [e] X.env = (false, eval e X.env) :: starEach [] X.env := by rfl) : EO X S W (.Call (.Name fn p) [e] [] pos) (gUnN f ga) := by
  obtain ⟨t, pe, q⟩ := h
  exact ⟨_, pe_callTy hc hg hm hv (pa_cons pe pa_nil hs) hn hdb hs rfl, c1n_run hf q⟩
/-! len -/
def dLen : D → Option D
  | .list xs => some (.int xs.length)
  | .tuple xs => some (.int xs.length)
  | .str z => if z.length ≤ sizeLine then some (.int z.length) else none
  | _ => none
theorem ok_len : C1Ok X S (fun xs H Q => ∃ x n, xs = [x] ∧ LenV X.K x H n ∧ Q (.int n) H) dLen := fun Y A σ H δ F v x d Q Rl rx e q => by
  cases x <;> simp [dLen] at e
  · rename_i z
    obtain ⟨hz, e⟩ := e
    subst e
    have e2 := rd_str rx
    subst e2
    exact ⟨_, _, rfl, ⟨hz, rfl⟩, q _ _ _ Rl (Same.refl F) (.int _)⟩
  · subst e
    obtain ⟨a1, vs, rfl, h1, r1⟩ := rx.list Rl.sub
    refine ⟨_, vs.length, rfl, .inl ⟨vs, .inl (.inl h1), rfl⟩, ?_⟩
    rw [r1.length]
    exact q _ _ _ Rl (Same.refl F) (.int _)
  · subst e
    obtain ⟨a1, vs, rfl, h1, r1⟩ := rx.tuple
    refine ⟨_, vs.length, rfl, .inr ⟨vs, sqt_same Rl.sub h1, rfl⟩, ?_⟩
    rw [r1.length]
    exact q _ _ _ Rl (Same.refl F) (.int _)
/-! abs, int -/
def dAbs : D → Option D
  | .int i => some (.int (if i < 0 then -i else i))
  | _ => none
theorem ok_abs : C1Ok X S (fun xs H Q => ∃ i, xs = [.int i] ∧ Q (.int (if i < 0 then -i else i)) H) dAbs := fun Y A σ H δ F v x d Q Rl rx e q => by
  cases x <;> simp only [dAbs] at e <;> try (cases e)
  have e2 := rd_int rx
  subst e2
  exact ⟨_, rfl, q _ _ _ Rl (Same.refl F) (.int _)⟩
def dInt : D → Option D
  | .int i => some (.int i)
  | .bool k => some (.int (if k then 1 else 0))
  | _ => none
theorem ok_int : C1Ok X S (fun xs H Q => (∃ i, xs = [.int i] ∧ Q (.int i) H) ∨ ∃ k, xs = [.bl k] ∧ Q (.int (if k then 1 else 0)) H) dInt := fun Y A σ H δ F v x d Q Rl rx e q => by
  cases x <;> simp only [dInt] at e <;> try (cases e)
  · have e2 := rd_bl rx
    subst e2
    exact .inr ⟨_, rfl, q _ _ _ Rl (Same.refl F) (.int _)⟩
  · have e2 := rd_int rx
    subst e2
    exact .inl ⟨_, rfl, q _ _ _ Rl (Same.refl F) (.int _)⟩
/-! tuple, list -/
def dTuple : D → Option D
  | .list xs => some (.tuple xs)
  | .tuple xs => some (.tuple xs)
  | _ => none
theorem ok_tuple : C1Ok X S (fun xs H Q => ∃ p ys, xs = [.ref p] ∧ ((SqL X.K H p ys ∧ ∀ l, H l = none → Q (.ref l) (upd H l (.tup ys))) ∨ (SqT X.K H p ys ∧ Q (.ref p) H))) dTuple := fun Y A σ H δ F v x d Q Rl rx e q => by
  cases x <;> simp [dTuple] at e
  · subst e
    obtain ⟨a1, vs, rfl, h1, r1⟩ := rx.list Rl.sub
    refine ⟨a1, vs, rfl, .inl ⟨.inl (.inl h1), fun l hl => ?_⟩⟩
    obtain ⟨b1, b2, b3⟩ := rp_tup_lay Rl r1 hl
    exact q _ _ _ b1 b2 b3
  · subst e
    obtain ⟨a1, vs, rfl, h1, r1⟩ := rx.tuple
    exact ⟨a1, vs, rfl, .inr ⟨sqt_same Rl.sub h1, q _ _ _ Rl (Same.refl F) (.tup h1 r1)⟩⟩
def cList : D → Option OC := fun x => (dSeq x).map .l
theorem new_list : C1New X S (fun xs H Q => ∃ p ys, xs = [.ref p] ∧ (SqL X.K H p ys ∨ SqT X.K H p ys) ∧ ∀ l, H l = none → Q (.ref l) (upd H l (.lst ys))) cList := fun Y A σ H δ F v x d Q Rl rx e q => by
  unfold cList at e
  cases hs : dSeq x with
  | none =>
    rw [hs] at e
    cases e
  | some ds =>
    rw [hs] at e
    cases e
    obtain ⟨a1, vs, rfl, h1, r1⟩ := rx.seq Rl.sub hs
    refine ⟨a1, vs, rfl, h1, fun l hl => ?_⟩
    obtain ⟨b1, b2⟩ := rp_lst_new Rl r1 hl
    exact q _ _ b1 b2
/-! sum, max, min, all, any -/
def intsOf : List D → Option (List Int)
  | [] => some []
  | .int i :: r => (intsOf r).map (i :: ·)
  | _ => none
theorem intsOf_map : ∀ ns : List Int, intsOf (ns.map .int) = some ns
  | [] => rfl
  | n :: r => by
    show (intsOf (r.map .int)).map (n :: ·) = _
    rw [intsOf_map r]
    rfl
theorem intsOf_eq : ∀ {ds : List D} {ns : List Int}, intsOf ds = some ns → ds = ns.map .int
  | [], ns, h => by
    cases h
    rfl
  | .int i :: r, ns, h => by
    have h' : (intsOf r).map (i :: ·) = some ns := h
    cases e : intsOf r with
    | none =>
      rw [e] at h'
      cases h'
    | some ms =>
      rw [e] at h'
      cases h'
      rw [intsOf_eq e]
      rfl
  | .none :: _, _, h => by cases h
  | .bool _ :: _, _, h => by cases h
  | .str _ :: _, _, h => by cases h
  | .list _ :: _, _, h => by cases h
  | .tuple _ :: _, _, h => by cases h
  | .dict _ :: _, _, h => by cases h
def blsOf : List D → Option (List Bool)
  | [] => some []
  | .bool i :: r => (blsOf r).map (i :: ·)
  | _ => none
theorem blsOf_map : ∀ ns : List Bool, blsOf (ns.map .bool) = some ns
  | [] => rfl
  | n :: r => by
    show (blsOf (r.map .bool)).map (n :: ·) = _
    rw [blsOf_map r]
    rfl
theorem blsOf_eq : ∀ {ds : List D} {ns : List Bool}, blsOf ds = some ns → ds = ns.map .bool
  | [], ns, h => by
    cases h
    rfl
  | .bool i :: r, ns, h => by
    have h' : (blsOf r).map (i :: ·) = some ns := h
    cases e : blsOf r with
    | none =>
      rw [e] at h'
      cases h'
    | some ms =>
      rw [e] at h'
      cases h'
      rw [blsOf_eq e]
      rfl
  | .none :: _, _, h => by cases h
  | .int _ :: _, _, h => by cases h
  | .str _ :: _, _, h => by cases h
  | .list _ :: _, _, h => by cases h
  | .tuple _ :: _, _, h => by cases h
  | .dict _ :: _, _, h => by cases h
theorem Rps.bls {K : Frg} {F : Hp} : ∀ {ns : List Bool} {vs : List V}, Rps K F (ns.map .bool) vs → vs = ns.map .bl
  | [], _, .nil => rfl
  | n :: ns, _, .cons a t => by
    have e := Rps.bls (ns := ns) t
    cases a
    rw [e]
    rfl
def maxI : List Int → Option Int
  | [] => none
  | x :: xs => some (xs.foldl max x)
def minI : List Int → Option Int
  | [] => none
  | x :: xs => some (xs.foldl min x)
theorem foldl_max_ge : ∀ (xs : List Int) (x : Int), x ≤ xs.foldl max x ∧ (∀ y ∈ xs, y ≤ xs.foldl max x) ∧ (xs.foldl max x = x ∨ xs.foldl max x ∈ xs)
  | [], x => ⟨Int.le_refl x, by simp, .inl rfl⟩
  | y :: r, x => by
    obtain ⟨h1, h2, h3⟩ := foldl_max_ge r (max x y)
    have e : (y :: r).foldl max x = r.foldl max (max x y) := rfl
    rw [e]
    refine ⟨by omega, fun z hz => ?_, ?_⟩
    · rcases List.mem_cons.mp hz with rfl | hz
      · omega
      · exact h2 z hz
    · rcases h3 with h | h
      · by_cases hxy : x ≤ y
        · exact .inr (by rw [h]; have : max x y = y := by omega
                         rw [this]; exact List.mem_cons_self ..)
        · exact .inl (by rw [h]; omega)
      · exact .inr (List.mem_cons_of_mem _ h)
theorem foldl_min_le : ∀ (xs : List Int) (x : Int), xs.foldl min x ≤ x ∧ (∀ y ∈ xs, xs.foldl min x ≤ y) ∧ (xs.foldl min x = x ∨ xs.foldl min x ∈ xs)
  | [], x => ⟨Int.le_refl x, by simp, .inl rfl⟩
  | y :: r, x => by
    obtain ⟨h1, h2, h3⟩ := foldl_min_le r (min x y)
    have e : (y :: r).foldl min x = r.foldl min (min x y) := rfl
    rw [e]
    refine ⟨by omega, fun z hz => ?_, ?_⟩
    · rcases List.mem_cons.mp hz with rfl | hz
      · omega
      · exact h2 z hz
    · rcases h3 with h | h
      · by_cases hxy : y ≤ x
        · exact .inr (by rw [h]; have : min x y = y := by omega
                         rw [this]; exact List.mem_cons_self ..)
        · exact .inl (by rw [h]; omega)
      · exact .inr (List.mem_cons_of_mem _ h)
theorem maxI_spec {ns : List Int} {m : Int} (h : maxI ns = some m) : m ∈ ns ∧ ∀ y ∈ ns, y ≤ m := by
  cases ns with
  | nil => cases h
  | cons x xs =>
    cases h
    obtain ⟨h1, h2, h3⟩ := foldl_max_ge xs x
    refine ⟨h3.elim (fun e => by rw [e]; exact List.mem_cons_self ..) fun e => List.mem_cons_of_mem _ e, fun y hy => ?_⟩
    rcases List.mem_cons.mp hy with rfl | hy
    · exact h1
    · exact h2 y hy
theorem minI_spec {ns : List Int} {m : Int} (h : minI ns = some m) : m ∈ ns ∧ ∀ y ∈ ns, m ≤ y := by
  cases ns with
  | nil => cases h
  | cons x xs =>
    cases h
    obtain ⟨h1, h2, h3⟩ := foldl_min_le xs x
    refine ⟨h3.elim (fun e => by rw [e]; exact List.mem_cons_self ..) fun e => List.mem_cons_of_mem _ e, fun y hy => ?_⟩
    rcases List.mem_cons.mp hy with rfl | hy
    · exact h1
    · exact h2 y hy
def onInts (f : List Int → Option Int) : D → Option D
  | .list xs => (intsOf xs).bind fun ns => (f ns).map .int
  | _ => none
theorem onInts_some {f : List Int → Option Int} {x d : D} (h : onInts f x = some d) : ∃ ns i, x = .list (ns.map .int) ∧ f ns = some i ∧ d = .int i := by
  cases x <;> simp only [onInts] at h <;> try (cases h)
  rename_i xs
  cases e : intsOf xs with
  | none =>
    rw [e] at h
    cases h
  | some ns =>
    rw [e] at h
    have h' : (f ns).map PyData.int = some d := h
    cases e2 : f ns with
    | none =>
      rw [e2] at h'
      cases h'
    | some i =>
      rw [e2] at h'
      cases h'
      exact ⟨ns, i, by rw [intsOf_eq e], e2, rfl⟩
def dSum : D → Option D := onInts fun ns => some ns.sum
def dMax : D → Option D := onInts maxI
def dMin : D → Option D := onInts minI
theorem ints_list {Y : Dy} {A : Nat → Addr} {σ : L2.St} {H F : Hp} {δ : SS} {v : V} {ns : List Int} (Rl : Rel X.K S Y F A H σ δ) (rx : RdP X.K F H (.list (ns.map .int)) v) : ∃ a, v = .ref a ∧ SqL X.K H a (ns.map V.int) := by
  obtain ⟨a1, vs, rfl, h1, r1⟩ := rx.list Rl.sub
  rw [r1.ints] at h1
  exact ⟨a1, rfl, .inl (.inl h1)⟩
theorem ok_sum : C1Ok X S (rSum X.K) dSum := fun Y A σ H δ F v x d Q Rl rx e q => by
  obtain ⟨ns, i, rfl, h1, rfl⟩ := onInts_some e
  cases h1
  obtain ⟨a1, rfl, h1⟩ := ints_list Rl rx
  exact ⟨a1, ns, rfl, h1, q _ _ _ Rl (Same.refl F) (.int _)⟩
theorem ok_max : C1Ok X S (rMax X.K) dMax := fun Y A σ H δ F v x d Q Rl rx e q => by
  obtain ⟨ns, i, rfl, h1, rfl⟩ := onInts_some e
  obtain ⟨a1, rfl, h2⟩ := ints_list Rl rx
  obtain ⟨h3, h4⟩ := maxI_spec h1
  refine ⟨a1, ns, rfl, h2, List.length_pos_of_mem h3, fun m hm1 hm2 => ?_⟩
  have e2 : m = i := Int.le_antisymm (h4 m hm1) (hm2 i h3)
  rw [e2]
  exact q _ _ _ Rl (Same.refl F) (.int _)
theorem ok_min : C1Ok X S (rMin X.K) dMin := fun Y A σ H δ F v x d Q Rl rx e q => by
  obtain ⟨ns, i, rfl, h1, rfl⟩ := onInts_some e
  obtain ⟨a1, rfl, h2⟩ := ints_list Rl rx
  obtain ⟨h3, h4⟩ := minI_spec h1
  refine ⟨a1, ns, rfl, h2, List.length_pos_of_mem h3, fun m hm1 hm2 => ?_⟩
  have e2 : m = i := Int.le_antisymm (hm2 i h3) (h4 m hm1)
  rw [e2]
  exact q _ _ _ Rl (Same.refl F) (.int _)
def onBls (f : List Bool → Bool) : D → Option D
  | .list xs => (blsOf xs).map fun bs => .bool (f bs)
  | _ => none
theorem onBls_some {f : List Bool → Bool} {x d : D} (h : onBls f x = some d) : ∃ ns, x = .list (ns.map .bool) ∧ d = .bool (f ns) := by
  cases x <;> simp only [onBls] at h <;> try (cases h)
  rename_i xs
  cases e : blsOf xs with
  | none =>
    rw [e] at h
    cases h
  | some ns =>
    rw [e] at h
    cases h
    exact ⟨ns, by rw [blsOf_eq e], rfl⟩
def dAll : D → Option D := onBls fun bs => bs.all id
def dAny : D → Option D := onBls fun bs => bs.any id
theorem ok_all : C1Ok X S (rAll X.K) dAll := fun Y A σ H δ F v x d Q Rl rx e q => by
  obtain ⟨ns, rfl, rfl⟩ := onBls_some e
  obtain ⟨a1, vs, rfl, h1, r1⟩ := rx.list Rl.sub
  rw [r1.bls] at h1
  exact ⟨a1, ns, rfl, .inl (.inl h1), q _ _ _ Rl (Same.refl F) (.bl _)⟩
theorem ok_any : C1Ok X S (rAny X.K) dAny := fun Y A σ H δ F v x d Q Rl rx e q => by
  obtain ⟨ns, rfl, rfl⟩ := onBls_some e
  obtain ⟨a1, vs, rfl, h1, r1⟩ := rx.list Rl.sub
  rw [r1.bls] at h1
  exact ⟨a1, ns, rfl, .inl (.inl h1), q _ _ _ Rl (Same.refl F) (.bl _)⟩
/-! sorted of a list -/
def okSort (ds : List D) : Bool := (ds.all fun x => ds.all fun y => PySem.W.alike x y) && (ds.all (fun x => match x with | .tuple (_ :: _) => true | _ => false) || ds.all fun x => match x with | .none => false | .tuple _ => false | _ => true) &&
  (ds.all fun x => x.plain && decide (x.depth ≤ 60)) && decide (ds.length ≤ sizeLine)
def sortD (ds : List D) : List D := ds.mergeSort (PySem.W.dataLe false id)
theorem okSort_facts {ds : List D} (h : okSort ds = true) : PySem.W.AllAlike ds ∧ PySem.W.Sortable ds ∧ (∀ d ∈ ds, d.plain = true ∧ d.depth ≤ 60) ∧ ds.length ≤ sizeLine := by
  unfold okSort at h
  simp only [Bool.and_eq_true, Bool.or_eq_true, List.all_eq_true, decide_eq_true_eq] at h
  obtain ⟨⟨⟨h1, h2⟩, h3⟩, h4⟩ := h
  refine ⟨fun d hd e he => h1 d hd e he, ?_, h3, h4⟩
  rcases h2 with h2 | h2
  · refine .inl fun d hd => ?_
    have z := h2 d hd
    cases d with
    | tuple xs =>
      cases xs with
      | nil => cases z
      | cons x r => exact ⟨x, r, rfl⟩
    | _ => cases z
  · refine .inr fun d hd => ?_
    have z := h2 d hd
    cases d with
    | none => cases z
    | tuple xs => cases z
    | _ => exact ⟨by simp, by simp⟩
theorem plainAll_of : ∀ {ds : List D}, (∀ d ∈ ds, d.plain = true) → PyData.plainAll ds = true
  | [], _ => by simp [PyData.plainAll]
  | d :: r, h => by
    simp only [PyData.plainAll, Bool.and_eq_true]
    exact ⟨h d (List.mem_cons_self ..), plainAll_of fun x hx => h x (List.mem_cons_of_mem _ hx)⟩
def rSortD (K : Frg) : List V → Hp → VK → Prop := fun vs H Q => ∃ a xs F ds, vs = [.ref a] ∧ SqL K H a xs ∧ Same F H ∧ Rps K F ds xs ∧ okSort ds = true ∧ ∀ ys p, Rps K F (sortD ds) ys → H p = none → Q (.ref p) (upd H p (.lst ys))
theorem each_of {K : Frg} {F : Hp} : ∀ {ds : List D} {xs : List V} {us : List Value}, Rps K F ds xs → Vals xs us → PySem.W.EachIs (fun v d => ∃ x, RelV x v ∧ Rp K F d x) us ds
  | _, _, _, .nil, .nil => .nil
  | _, _, _, .cons a r, .cons v t => .cons ⟨_, v, a⟩ (each_of r t)
theorem of_each {K : Frg} {F : Hp} : ∀ {ds : List D} {us : List Value}, PySem.W.EachIs (fun v d => ∃ x, RelV x v ∧ Rp K F d x) us ds → ∃ ys, Vals ys us ∧ Rps K F ds ys
  | _, _, .nil => ⟨[], .nil, .nil⟩
  | _, _, .cons ⟨x, r, q⟩ t => by
    obtain ⟨ys, h1, h2⟩ := of_each t
    exact ⟨x :: ys, .cons r h1, .cons q h2⟩
theorem cr_sortD (hu : X.A.units + 64 < cLine) : CallR X (.builtin "sorted") (rSortD X.K) := by
  intro pins s σ H vs us Q I r h
  obtain ⟨a, xs, F, ds, rfl, hs, k, rp, ok, q⟩ := h
  obtain ⟨h1, h2, h3, h4⟩ := okSort_facts ok
  obtain ⟨its, rv, hl, _⟩ := I.list hs
  rw [Vals.ref1 r]
  obtain ⟨as, hr⟩ := rps_reads I k ds xs its rp rv (plainAll_of fun d hd => (h3 d hd).1)
  have em : ds.map id = ds := List.map_id ds
  refine PySem.W.sorted_data (enc := id) (bs := ds) hl.isList (each_of rp rv) (PySem.W.readsAll_each id (by rw [em]; exact hr)) (by rw [em]; exact h1) (by rw [em]; exact h2) h4 (fun d hd => by have := (h3 d hd).2; show X.A.units + 2 + d.depth < cLine; omega) fun out ho eo => ?_
  obtain ⟨ys, v1, v2⟩ := of_each eo
  obtain ⟨ep, he'⟩ := PyProof.Rows.sortedAll_at s.heap its out.toArray
  have hlen : ys.length ≤ sizeLine := by rw [v2.length, List.length_mergeSort]; exact h4
  exact ⟨.ref _, upd H (s.heap.objs.size + 1) (.lst ys), I.laid (t' := s.toks) (fun _ _ => PyProof.Rows.sortedAll_old) (Nat.le_succ _) ⟨hlen, out, ep, v1, he'⟩, rfl, q ys _ v2 (I.hok.fresh (Nat.le_succ _))⟩
def cSorted : D → Option OC
  | .list xs => if okSort xs = true then some (.l (sortD xs)) else none
  | _ => none
theorem new_sorted : C1New X S (rSortD X.K) cSorted := fun Y A σ H δ F v x d Q Rl rx e q => by
  cases x <;> simp only [cSorted] at e <;> try (cases e)
  rename_i xs
  split at e
  · rename_i ok
    cases e
    obtain ⟨a1, vs, rfl, h1, r1⟩ := rx.list Rl.sub
    refine ⟨a1, vs, F, xs, rfl, .inl (.inl h1), Rl.sub, r1, ok, fun ys p ry hp => ?_⟩
    obtain ⟨b1, b2⟩ := rp_lst_new Rl ry hp
    exact q _ _ b1 b2
  · cases e
/-! ### two arguments: max, min of two ints -/
def gCall2 (f : D → D → Option D) (ga gb : SS → R D) : SS → R D := gOp f ga gb
def C2Ok (X : Cx) (S : Sx) (r : List V → Hp → VK → Prop) (f : D → D → Option D) : Prop := ∀ Y A σ H δ F v u x y d Q, Rel X.K S Y F A H σ δ → Rp X.K F x v → RdP X.K F H y u → f x y = some d →
  (∀ w H' F', Rel X.K S Y F' A H' σ δ → Same F F' → Rp X.K F' d w → Q w H') → r [v, u] H Q
theorem ev_b2 {id : String} {r : List V → Hp → VK → Prop} {f : D → D → Option D} (hc : CallR X (.builtin id) r) (hf : C2Ok X S r f) (hm : X.mg fn = none) (hv : bootBuiltins fn = some (.builtin id)) (h : EV X S W a ga) (h2 : EP X S W b gb) (hg : Gl X fn := by rfl)
    (hn : fn ≠ "__name__" := by decide) (hdb : (fn == ("__debug__" : Str)) = false := by decide) (hs : starEach [a, b] X.env = (false, eval a X.env) :: starEach [b] X.env := by rfl) (hs2 : starEach [b] X.env = (false, eval b X.env) :: starEach [] X.env := by rfl) : EV X S W (.Call (.Name fn p) [a, b] [] pos) (gOp f ga gb) := by
  obtain ⟨t, pe, q⟩ := h
  obtain ⟨t2, pe2, q2⟩ := h2
  refine ⟨_, pe_callB hc hg hm hv (pa_cons pe (pa_cons pe2 pa_nil hs2) hs) hn hdb hs (by rw [hs2]; rfl), fun Y A σ H δ F Q Rl hr => ?_⟩
  refine q _ _ _ _ _ _ _ Rl (Run.bind hr fun x δ1 v H1 F1 e R1 s1 rx h1 => ?_)
  refine q2 _ _ _ _ _ _ _ R1 (Run.bind h1 fun y δ2 u H2 F2 e2 R2 s2 ry h2 => ?_)
  obtain ⟨d, ed, q⟩ := Run.opt h2
  exact hf _ _ _ _ _ _ _ _ _ _ _ _ R2 (rx.mono s2) ry ed fun w H' F' R' s' r' => q w _ _ R' s' r'
def dMax2 : D → D → Option D := fI fun i j => some (.int (max i j))
def dMin2 : D → D → Option D := fI fun i j => some (.int (min i j))
theorem ok_max2 : C2Ok X S (fun xs H Q => ∃ i j, xs = [.int i, .int j] ∧ Q (.int (if j > i then j else i)) H) dMax2 := fun Y A σ H δ F v u x y d Q Rl rx ry e q => by
  obtain ⟨i, j, rfl, rfl, e'⟩ := fI_some e
  cases e'
  have e1 := rd_int (.inl rx : RdP X.K F H (.int i) v)
  have e2 := rd_int ry
  subst e1 e2
  have e3 : (if j > i then j else i) = max i j := by split <;> omega
  refine ⟨i, j, rfl, ?_⟩
  rw [e3]
  exact q _ _ _ Rl (Same.refl F) (.int _)
theorem ok_min2 : C2Ok X S (fun xs H Q => ∃ i j, xs = [.int i, .int j] ∧ Q (.int (if j < i then j else i)) H) dMin2 := fun Y A σ H δ F v u x y d Q Rl rx ry e q => by
  obtain ⟨i, j, rfl, rfl, e'⟩ := fI_some e
  cases e'
  have e1 := rd_int (.inl rx : RdP X.K F H (.int i) v)
  have e2 := rd_int ry
  subst e1 e2
  have e3 : (if j < i then j else i) = min i j := by split <;> omega
  refine ⟨i, j, rfl, ?_⟩
  rw [e3]
  exact q _ _ _ Rl (Same.refl F) (.int _)
/-! ### isinstance(e, T) -/
def dTy : D → String
  | .none => "NoneType"
  | .bool _ => "bool"
  | .int _ => "int"
  | .str _ => "str"
  | .list _ => "list"
  | .tuple _ => "tuple"
  | .dict _ => "dict"
theorem rd_tyx {K : Frg} {F H : Hp} {x : D} {v : V} (e : Same F H) (h : RdP K F H x v) : TyX K H v (.type (dTy x)) := by
  rcases h with h | ⟨a, o, c, rfl, h1, h2, rfl⟩
  · cases h with
    | non => exact .base .non
    | bl b => exact .base (.bl b)
    | int b => exact .base (.int b)
    | str b => exact .base (.str b)
    | lst h r => exact .base (.lst (e _ _ h))
    | tup h r =>
      rcases h with (h | ⟨o, h⟩) | ⟨o, its, n, hk, hc, _⟩
      · exact .base (.tup (e _ _ h))
      · exact .fTuple (e _ _ h)
      · exact .kTuple hk hc
    | dct h r => exact .base (.dK (e _ _ h))
  · cases h2 with
    | l r => exact .base (.lst h1)
    | m r => exact .base (.dK h1)
def dIsi (T : String) : D → Option D := fun x => (kitB (dTy x) T).map .bool
theorem ev_isi {T : String} {tn : Str} (h : EP X S W e ga) (hm : X.mg "isinstance" = none) (hm2 : X.mg tn = none) (hv2 : bootBuiltins tn = some (.type T)) (hg : Gl X "isinstance" := by rfl) (hg2 : Gl X tn := by rfl)
    (hn : tn ≠ "__name__" := by decide) (hdb : (tn == ("__debug__" : Str)) = false := by decide) (hs : starEach [e, .Name tn pos2] X.env = (false, eval e X.env) :: starEach [.Name tn pos2] X.env := by rfl) :
    EV X S W (.Call (.Name "isinstance" p) [e, .Name tn pos2] [] pos) (gUn (dIsi T) ga) := by
  obtain ⟨t, pe, q⟩ := h
  refine ⟨_, pe_callB call_isi hg hm (by decide +kernel) (pa_cons pe (pa_cons (pe_bltn (v := .ty T) hg2 hm2 hv2 rfl hn hdb) pa_nil) hs) (by decide) (by decide) hs, fun Y A σ H δ F Q Rl hr => ?_⟩
  refine q _ _ _ _ _ _ _ Rl (Run.bind hr fun x δ1 v H1 F1 e R1 s1 rx h1 => ?_)
  obtain ⟨d, ed, q⟩ := Run.opt h1
  unfold dIsi at ed
  cases hk : kitB (dTy x) T with
  | none =>
    rw [hk] at ed
    cases ed
  | some b =>
    rw [hk] at ed
    cases ed
    exact ⟨v, .ty T, .type (dTy x), .type T, b, rfl, .ty T, rd_tyx R1.sub rx, kit_ty hk, q _ _ _ R1 (Same.refl _) (.bl b)⟩
/-! ### items -/
theorem atI_rps {K : Frg} {F : Hp} {ds : List D} {vs : List V} {i : Int} {d : D} (r : Rps K F ds vs) (h : atI ds i = some d) : ∃ v, atI vs i = some v ∧ Rp K F d v := by
  unfold atI at h ⊢
  rw [r.length]
  cases e : ixN ds.length i with
  | none =>
    rw [e] at h
    cases h
  | some j =>
    rw [e] at h
    exact r.get h
def dIx : D → D → Option D
  | .list xs, .int i => atI xs i
  | .tuple xs, .int i => atI xs i
  | .str z, .int i => if z.length ≤ sizeLine then (atI z.cps.toList i).map fun c => .str ⟨#[c]⟩ else none
  | _, _ => none
theorem rd_ix : OpRd X S (rIx X.K) dIx := fun Y A σ H δ F v u x y d Q Rl rx ry e q => by
  cases x <;> cases y <;> simp only [dIx] at e <;> try (cases e)
  · rename_i z i
    have e2 := rd_int ry
    have e3 := rd_str rx
    subst e2 e3
    split at e
    · rename_i hz
      cases hc : atI z.cps.toList i with
      | none =>
        rw [hc] at e
        cases e
      | some c =>
        rw [hc] at e
        cases e
        exact .inr (.inr ⟨z, i, c, rfl, rfl, hz, hc, q _ (.str _)⟩)
    · cases e
  · have e2 := rd_int ry
    subst e2
    obtain ⟨a1, vs, rfl, h1, r1⟩ := rx.list Rl.sub
    obtain ⟨w, h2, h3⟩ := atI_rps r1 e
    exact .inl ⟨a1, vs, _, w, rfl, rfl, .inl (.inl h1), h2, q _ h3⟩
  · have e2 := rd_int ry
    subst e2
    obtain ⟨a1, vs, rfl, h1, r1⟩ := rx.tuple
    obtain ⟨w, h2, h3⟩ := atI_rps r1 e
    exact .inr (.inl ⟨a1, vs, _, w, rfl, rfl, sqt_same Rl.sub h1, h2, q _ h3⟩)
theorem ev_ix (ha : EV X S W a ga) (hb : EP X S W b gb) (hs : PlainIx b := by exact fun _ _ => rfl) : EV X S W (.Subscript a b pos) (gOp dIx ga gb) := by
  obtain ⟨ta, pa, qa⟩ := ha
  obtain ⟨tb, pb, qb⟩ := hb
  exact ⟨_, pe_ix ix_seq pa pb hs, opR_run rd_ix qa qb⟩
/-- found[i], found an own list -/
theorem ev_ixO (i : Nat) {x : Str} {p : Pos} (hb : EV X S W b gb) (hs : PlainIx b := by exact fun _ _ => rfl) (hN : X.N[i]? = some x := by rfl) (hv : Vis X.env.scope x := by first | exact Or.inl rfl | exact Or.inr (Or.inl rfl) | exact Or.inr (Or.inr rfl)) (hd : (x == ("__debug__" : Str)) = false := by decide)
    (hcd : (x == ("__classdict__" : Str)) = false := by decide) : EV X S W (.Subscript (.Name x p) b pos) (gOpL dIx i gb) := by
  obtain ⟨tb, pb, qb⟩ := hb
  exact ⟨_, pe_ix ix_seq (pe_var hN hv hd hcd) pb hs, opO_run rd_ix qb⟩
/-! ### the script -/
def gScr (i : Nat) : SS → R (List Int) := fun δ => match δ[i]? with
  | some (some (.q ns)) => .ok ns δ
  | _ => .bad
theorem scr_run {α β : Type} {ρ : Hp → Hp → SS → α → β → Prop} {Y : Dy} {A : Nat → Addr} {σ : L2.St} {F : Hp} {δ : SS} {i : Nat} {k : List Int → SS → R α} {Q : β → Hp → Prop} (h : Run X.K X.mg S Y A σ W ρ F ((gScr i δ).bind k) Q) :
    ∃ ns, δ[i]? = some (some (.q ns)) ∧ Run X.K X.mg S Y A σ W ρ F (k ns δ) Q := by
  unfold gScr at h
  split at h
  · rename_i ns e
    exact ⟨ns, e, h⟩
  · exact h.elim
theorem ev_scrLen (i : Nat) {x : Str} {p2 : Pos} (hm : X.mg "len" = none) (hg : Gl X "len" := by rfl) (hN : X.N[i]? = some x := by rfl) (hv : Vis X.env.scope x := by first | exact Or.inl rfl | exact Or.inr (Or.inl rfl) | exact Or.inr (Or.inr rfl)) (hd : (x == ("__debug__" : Str)) = false := by decide)
    (hcd : (x == ("__classdict__" : Str)) = false := by decide) : EV X S W (.Call (.Name "len" p) [.Name x p2] [] pos) (fun δ => (gScr i δ).bind fun ns δ1 => .ok (.int ns.length) δ1) := by
  refine ⟨_, pe_callB call_len hg hm PySem.boot_len (pa_cons (pe_var hN hv hd hcd) pa_nil), fun Y A σ H δ F Q Rl h => ?_⟩
  obtain ⟨ns, e, h⟩ := scr_run h
  obtain ⟨v, h1, b, rfl, h3⟩ := Rl.slot i _ e
  refine ⟨_, h1, _, _, rfl, .inl ⟨_, Rl.sub.seq h3, rfl⟩, ?_⟩
  rw [List.length_map]
  exact opt_run h Rl (.int _)
def gScrIx (i : Nat) (gb : SS → R D) : SS → R D := fun δ => (gScr i δ).bind fun ns δ1 => (gb δ1).bind fun y δ2 => R.opt (dIx (.list (ns.map .int)) y) δ2
theorem ev_scrIx (i : Nat) {x : Str} {p : Pos} (hb : EV X S W b gb) (hs : PlainIx b := by exact fun _ _ => rfl) (hN : X.N[i]? = some x := by rfl) (hv : Vis X.env.scope x := by first | exact Or.inl rfl | exact Or.inr (Or.inl rfl) | exact Or.inr (Or.inr rfl)) (hd : (x == ("__debug__" : Str)) = false := by decide)
    (hcd : (x == ("__classdict__" : Str)) = false := by decide) : EV X S W (.Subscript (.Name x p) b pos) (gScrIx i gb) := by
  obtain ⟨tb, pb, qb⟩ := hb
  refine ⟨_, pe_ix ix_seq (pe_var hN hv hd hcd) pb hs, fun Y A σ H δ F Q Rl h => ?_⟩
  unfold gScrIx at h
  obtain ⟨ns, e, h⟩ := scr_run h
  obtain ⟨v, h1, b, rfl, h3⟩ := Rl.slot i _ e
  refine ⟨_, h1, ?_⟩
  refine qb _ _ _ _ _ _ _ Rl (Run.bind h fun y δ2 u H2 F2 e2 R2 s2 ry h2 => ?_)
  obtain ⟨d, ed, q⟩ := Run.opt h2
  cases y <;> simp only [dIx] at ed <;> try (cases ed)
  rename_i k
  cases ry
  obtain ⟨w, g1, g2⟩ := atI_rps (Rps.of_ints (K := X.K) (F := F2) ns) ed
  exact .inl ⟨b, _, k, w, rfl, rfl, (s2.trans R2.sub).seq h3, g1, q _ _ _ R2 (Same.refl _) g2⟩
/-! ### slices -/
def gPartN : SS → R (Option Int) := fun δ => .ok none δ
def gPart (g : SS → R D) : SS → R (Option Int) := fun δ => (g δ).bind fun x δ1 => match x with
  | .int i => .ok (some i) δ1
  | _ => .bad
def OV (X : Cx) (S : Sx) (W : WX) (o : Option Expr) (g : SS → R (Option Int)) : Prop :=
  ∃ t, PO X o t ∧ ∀ Y A σ H δ F Q, Rel X.K S Y F A H σ δ → Run X.K X.mg S Y A σ W (fun _ _ _ (a b : Option Int) => a = b) F (g δ) Q → t σ H Q
theorem ov_none : OV X S W none gPartN := ⟨_, po_none, fun Y A σ H δ F Q Rl h => h _ _ _ Rl (Same.refl _) rfl⟩
theorem ov_some (h : EV X S W e ga) : OV X S W (some e) (gPart ga) := by
  obtain ⟨t, p, q⟩ := h
  refine ⟨_, po_some p, fun Y A σ H δ F Q Rl hr => q _ _ _ _ _ _ _ Rl (Run.bind hr fun x δ1 v H1 F1 _ R1 s1 rx h1 => ?_)⟩
  cases rx with
  | int i => exact ⟨i, rfl, h1 _ _ _ R1 (Same.refl _) rfl⟩
  | _ => exact h1.elim
def cutD (xs : List D) (lo hi : Option Int) : List D := (xs.drop (HT.sIx xs.length 0 lo)).take (HT.sIx xs.length xs.length hi - HT.sIx xs.length 0 lo)
theorem Rps.cut {K : Frg} {F : Hp} {ds : List D} {vs : List V} (r : Rps K F ds vs) (lo hi : Option Int) : Rps K F (cutD ds lo hi) (cutV vs lo hi) := by
  unfold cutD cutV
  rw [r.length]
  exact (r.drop _).take _
variable {lo hi : Option Expr} {gl gh : SS → R (Option Int)} {p2 : Pos}
def gSl {α : Type} (f : D → Option Int → Option Int → Option α) (ga : SS → R D) (gl gh : SS → R (Option Int)) : SS → R α := fun δ => (ga δ).bind fun x δ1 => (gl δ1).bind fun l δ2 => (gh δ2).bind fun h δ3 => R.opt (f x l h) δ3
def cSlL : D → Option Int → Option Int → Option OC
  | .list xs, l, h => some (.l (cutD xs l h))
  | _, _, _ => none
def dSlT : D → Option Int → Option Int → Option D
  | .tuple xs, l, h => some (.tuple (cutD xs l h))
  | _, _, _ => none
def dSlS : D → Option Int → Option Int → Option D
  | .str z, l, h => if z.length ≤ sizeLine then some (.str (cutS z l h)) else none
  | _, _, _ => none
theorem eo_slL (h : EV X S W e ga) (hl : OV X S W lo gl) (hh : OV X S W hi gh) : EO X S W (.Subscript e (.Slice lo hi none p2) pos) (gSl cSlL ga gl gh) := by
  obtain ⟨t, p, q⟩ := h
  obtain ⟨t1, p1, q1⟩ := hl
  obtain ⟨t2, p2, q2⟩ := hh
  refine ⟨_, pe_slice sl_list p p1 p2, fun Y A σ H δ F Q Rl hr => q _ _ _ _ _ _ _ Rl (Run.bind hr fun x δ1 v H1 F1 _ R1 s1 rx h1 => ?_)⟩
  refine q1 _ _ _ _ _ _ _ R1 (Run.bind h1 fun l δ2 l' H2 F2 _ R2 s2 e2 h2 => ?_)
  have e2' : l = l' := e2
  subst e2'
  refine q2 _ _ _ _ _ _ _ R2 (Run.bind h2 fun h δ3 h' H3 F3 _ R3 s3 e3 h3 => ?_)
  have e3' : h = h' := e3
  subst e3'
  obtain ⟨d, ed, q'⟩ := Run.opt h3
  have rx' := (rx.mono s2).mono s3
  cases rx' with
  | lst hx r =>
    cases ed
    refine ⟨_, _, rfl, .inl (.inl (R3.sub _ _ hx)), fun p hp => ?_⟩
    obtain ⟨b1, b2⟩ := rp_lst_new R3 (r.cut l h) hp
    exact q' _ _ _ b1 (Same.refl _) b2
  | _ => cases ed
theorem ev_slT (h : EV X S W e ga) (hl : OV X S W lo gl) (hh : OV X S W hi gh) : EV X S W (.Subscript e (.Slice lo hi none p2) pos) (gSl dSlT ga gl gh) := by
  obtain ⟨t, p, q⟩ := h
  obtain ⟨t1, p1, q1⟩ := hl
  obtain ⟨t2, p2, q2⟩ := hh
  refine ⟨_, pe_slice sl_tupA p p1 p2, fun Y A σ H δ F Q Rl hr => q _ _ _ _ _ _ _ Rl (Run.bind hr fun x δ1 v H1 F1 _ R1 s1 rx h1 => ?_)⟩
  refine q1 _ _ _ _ _ _ _ R1 (Run.bind h1 fun l δ2 l' H2 F2 _ R2 s2 e2 h2 => ?_)
  have e2' : l = l' := e2
  subst e2'
  refine q2 _ _ _ _ _ _ _ R2 (Run.bind h2 fun h δ3 h' H3 F3 _ R3 s3 e3 h3 => ?_)
  have e3' : h = h' := e3
  subst e3'
  obtain ⟨d, ed, q'⟩ := Run.opt h3
  have rx' := (rx.mono s2).mono s3
  cases rx' with
  | @tup a vs ds hx r =>
    cases ed
    refine ⟨_, _, rfl, sqt_same R3.sub hx, fun hw => ?_, fun _ p hp => ?_⟩
    · have ew : cutD ds l h = ds := by
        unfold cutD
        rw [r.length] at hw
        rw [hw.1, hw.2]
        simp
      rw [ew] at q'
      exact q' _ _ _ R3 (Same.refl _) (.tup hx r)
    · obtain ⟨b1, b2, b3⟩ := rp_tup_lay R3 (r.cut l h) hp
      exact q' _ _ _ b1 b2 b3
  | _ => cases ed
theorem ev_slS (h : EV X S W e ga) (hl : OV X S W lo gl) (hh : OV X S W hi gh) : EV X S W (.Subscript e (.Slice lo hi none p2) pos) (gSl dSlS ga gl gh) := by
  obtain ⟨t, p, q⟩ := h
  obtain ⟨t1, p1, q1⟩ := hl
  obtain ⟨t2, p2, q2⟩ := hh
  refine ⟨_, pe_slice sl_str p p1 p2, fun Y A σ H δ F Q Rl hr => q _ _ _ _ _ _ _ Rl (Run.bind hr fun x δ1 v H1 F1 _ R1 s1 rx h1 => ?_)⟩
  refine q1 _ _ _ _ _ _ _ R1 (Run.bind h1 fun l δ2 l' H2 F2 _ R2 s2 e2 h2 => ?_)
  have e2' : l = l' := e2
  subst e2'
  refine q2 _ _ _ _ _ _ _ R2 (Run.bind h2 fun h δ3 h' H3 F3 _ R3 s3 e3 h3 => ?_)
  have e3' : h = h' := e3
  subst e3'
  obtain ⟨d, ed, q'⟩ := Run.opt h3
  have rx' := (rx.mono s2).mono s3
  cases rx' with
  | str z =>
    by_cases hz : z.length ≤ sizeLine
    · have ed' : (if z.length ≤ sizeLine then some (PyData.str (cutS z l h)) else none) = some d := ed
      rw [if_pos hz] at ed'
      cases ed'
      exact ⟨_, rfl, hz, q' _ _ _ R3 (Same.refl _) (.str _)⟩
    · have ed' : (if z.length ≤ sizeLine then some (PyData.str (cutS z l h)) else none) = some d := ed
      rw [if_neg hz] at ed'
      cases ed'
  | _ => cases ed
/-- script[lo:hi] -/
theorem eo_scrSl (i : Nat) {x : Str} {p3 : Pos} (hl : OV X S W lo gl) (hh : OV X S W hi gh) (hN : X.N[i]? = some x := by rfl) (hv : Vis X.env.scope x := by first | exact Or.inl rfl | exact Or.inr (Or.inl rfl) | exact Or.inr (Or.inr rfl)) (hd : (x == ("__debug__" : Str)) = false := by decide)
    (hcd : (x == ("__classdict__" : Str)) = false := by decide) : EO X S W (.Subscript (.Name x p3) (.Slice lo hi none p2) pos) (gSl cSlL (fun δ => (gScr i δ).bind fun ns δ1 => .ok (.list (ns.map .int)) δ1) gl gh) := by
  obtain ⟨t1, p1, q1⟩ := hl
  obtain ⟨t2, p2, q2⟩ := hh
  refine ⟨_, pe_slice sl_list (pe_var hN hv hd hcd) p1 p2, fun Y A σ H δ F Q Rl hr => ?_⟩
  have hr' : Run X.K X.mg S Y A σ W (ρO X.K S Y A) F ((gScr i δ).bind fun ns δ1 => (gl δ1).bind fun l δ2 => (gh δ2).bind fun h δ3 => R.opt (cSlL (.list (ns.map .int)) l h) δ3) Q := by
    unfold gSl at hr
    dsimp only at hr
    cases hg : gScr i δ <;> (rw [hg] at hr; exact hr)
  obtain ⟨ns, e, hr⟩ := scr_run hr'
  obtain ⟨v, h1, b, rfl, h3⟩ := Rl.slot i _ e
  refine ⟨_, h1, ?_⟩
  refine q1 _ _ _ _ _ _ _ Rl (Run.bind hr fun l δ2 l' H2 F2 _ R2 s2 e2 h2 => ?_)
  have e2' : l = l' := e2
  subst e2'
  refine q2 _ _ _ _ _ _ _ R2 (Run.bind h2 fun h δ3 h' H3 F3 _ R3 s3 e3 h3' => ?_)
  have e3' : h = h' := e3
  subst e3'
  obtain ⟨d, ed, q'⟩ := Run.opt h3'
  cases ed
  refine ⟨_, _, rfl, ((s2.trans s3).trans R3.sub).seq h3, fun p hp => ?_⟩
  obtain ⟨b1, b2⟩ := rp_lst_new R3 ((Rps.of_ints (K := X.K) (F := F3) ns).cut l h) hp
  exact q' _ _ _ b1 (Same.refl _) b2
end
end DL
set_option Elab.async false
set_option linter.all false
set_option maxRecDepth 100000
set_option maxHeartbeats 4000000
namespace DL
open PySem PySem.Spec PyProof.Rows L2
/-! ### canonical readings -/
def tEV (K : Frg) (mg : Str → Option Value) (S : Sx) (W : WX) (g : SS → R D) : TE := fun σ H Q => ∃ Y A δ F, Rel K S Y F A H σ δ ∧ Run K mg S Y A σ W (ρD K) F (g δ) Q
def tTV (K : Frg) (mg : Str → Option Value) (S : Sx) (W : WX) (g : SS → R Bool) : TT := fun σ H Q => ∃ Y A δ F, Rel K S Y F A H σ δ ∧ Run K mg S Y A σ W ρB F (g δ) Q
theorem ev_pe {X : Cx} {S : Sx} {W : WX} {e : Expr} {g : SS → R D} (h : EV X S W e g) : PE X e (tEV X.K X.mg S W g) := by
  obtain ⟨t, p, q⟩ := h
  refine ⟨fun pins s σ H Q I hw => ?_⟩
  obtain ⟨Y, A, δ, F, Rl, hr⟩ := hw
  exact p.run pins s σ H Q I (q _ _ _ _ _ _ _ Rl hr)
theorem tv_pt {X : Cx} {S : Sx} {W : WX} {e : Expr} {g : SS → R Bool} (h : TV X S W e g) : PT X e (tTV X.K X.mg S W g) := by
  obtain ⟨t, p, q⟩ := h
  refine ⟨fun pins s σ H Q I hw => ?_⟩
  obtain ⟨Y, A, δ, F, Rl, hr⟩ := hw
  exact p.run pins s σ H Q I (q _ _ _ _ _ _ _ Rl hr)
/-! ### slots forgotten -/
@[simp] def wipeD (δ : SS) : List Nat → SS
  | [] => δ
  | v :: vs => (wipeD δ vs).set v none
theorem wipeD_some {δ : SS} {i : Nat} {x : SV} : ∀ {vs : List Nat}, (wipeD δ vs)[i]? = some (some x) → δ[i]? = some (some x) ∧ i ∉ vs
  | [], h => ⟨h, by simp⟩
  | v :: vs, h => by
    obtain ⟨h1, h2⟩ := set_none (show ((wipeD δ vs).set v none)[i]? = some (some x) from h)
    obtain ⟨h3, h4⟩ := wipeD_some h2
    exact ⟨h3, by simp only [List.mem_cons, not_or]; exact ⟨h1, h4⟩⟩
theorem wipeD_length (δ : SS) : ∀ vs : List Nat, (wipeD δ vs).length = δ.length
  | [] => rfl
  | v :: vs => by
    unfold wipeD
    rw [List.length_set, wipeD_length δ vs]
theorem wipe_get {σ : L2.St} {i : Nat} : ∀ {vs : List Nat}, i ∉ vs → (wipe σ vs)[i]? = σ[i]?
  | [], _ => rfl
  | v :: vs, h => by
    simp only [List.mem_cons, not_or] at h
    show ((wipe σ vs).set v none)[i]? = σ[i]?
    rw [List.getElem?_set_ne (fun z => h.1 z.symm), wipe_get h.2]
theorem wipe_in {σ : L2.St} {i : Nat} : ∀ {vs : List Nat}, i ∈ vs → i < σ.length → (wipe σ vs)[i]? = some none
  | v :: vs, h, hl => by
    show ((wipe σ vs).set v none)[i]? = some none
    by_cases e : v = i
    · subst e
      rw [List.getElem?_set_self (by rw [wipe_length]; exact hl)]
    · rw [List.getElem?_set_ne e]
      rcases List.mem_cons.mp h with h | h
      · exact absurd h.symm e
      · exact wipe_in h hl
theorem wipe_eq {σ σ' : L2.St} {vs : List Nat} (hl : σ'.length = σ.length) (h : ∀ j, j ∉ vs → σ'[j]? = σ[j]?) : wipe σ' vs = wipe σ vs := by
  apply List.ext_getElem?
  intro i
  by_cases hi : i ∈ vs
  · by_cases hz : i < σ.length
    · rw [wipe_in hi hz, wipe_in hi (by rw [hl]; exact hz)]
    · rw [List.getElem?_eq_none (by rw [wipe_length, hl]; omega), List.getElem?_eq_none (by rw [wipe_length]; omega)]
  · rw [wipe_get hi, wipe_get hi, h i hi]
section
variable {K : Frg} {S : Sx} {Y : Dy} {F : Hp} {A : Nat → Addr} {H : Hp} {σ : L2.St} {δ : SS}
theorem Rel.wipe (Rl : Rel K S Y F A H σ δ) (vs : List Nat) : Rel K S Y F A H (L2.wipe σ vs) (wipeD δ vs) := by
  refine ⟨Rl.sub, Rl.ntb, Rl.grow, Rl.frs, Rl.kp, Rl.tabs, by rw [wipe_length, wipeD_length]; exact Rl.len, fun i x h => ?_, fun i c h => Rl.own i c (wipeD_some h).1,
    fun i j c c' h1 h2 => Rl.inj i j c c' (wipeD_some h1).1 (wipeD_some h2).1, Rl.pin, fun i c hi h => Rl.oadr i c hi (wipeD_some h).1, Rl.opar⟩
  obtain ⟨h1, h2⟩ := wipeD_some h
  obtain ⟨v, h3, h4⟩ := Rl.slot i x h1
  exact ⟨v, by rw [wipe_get h2]; exact h3, h4⟩
/-! ### a block of its own -/
def ownSet (A : Nat → Addr) (δ : SS) : Addr → Prop := fun a => ∃ i c, δ[i]? = some (some (.o c)) ∧ A i = a
def innerY (F H : Hp) (A : Nat → Addr) (δ : SS) : Dy := ⟨H, F, A, ownSet A δ⟩
theorem Rel.enter (Rl : Rel K S Y F A H σ δ) {n : Nat} (hn : δ.length ≤ n) : Rel K ⟨S.T, n⟩ (innerY F H A δ) F A H σ δ := by
  refine ⟨Rl.sub, Rl.ntb, Same.refl F, fun b q => .inl q, Kp.refl _ _ _, Rl.tabs, Rl.len, Rl.slot, fun i c h => ⟨(Rl.own i c h).1, .inl ?_⟩, Rl.inj, fun _ _ => rfl, fun i c _ h => ⟨i, c, h, rfl⟩, fun a ⟨i, c, h, e⟩ => ?_⟩
  · exact Nat.lt_of_lt_of_le (List.getElem?_eq_some_iff.mp h).1 hn
  · show F a = none
    rw [← e]
    exact (Rl.own i c h).1
@[simp] def mg1 : Option SV → Option SV → Option SV
  | some (.o _), some (.o c) => some (.o c)
  | some (.o _), _ => none
  | a, _ => a
@[simp] def mergeD : SS → SS → SS
  | [], _ => []
  | a :: as, [] => mg1 a none :: mergeD as []
  | a :: as, b :: bs => mg1 a b :: mergeD as bs
theorem mergeD_length : ∀ (δ δ' : SS), (mergeD δ δ').length = δ.length
  | [], _ => rfl
  | a :: as, [] => by
    show (mergeD as []).length + 1 = as.length + 1
    rw [mergeD_length]
  | a :: as, b :: bs => by
    show (mergeD as bs).length + 1 = as.length + 1
    rw [mergeD_length]
theorem mergeD_some : ∀ {δ δ' : SS} {i : Nat} {x : SV}, (mergeD δ δ')[i]? = some (some x) → ∃ a, δ[i]? = some (some a) ∧ ((∃ c c', a = .o c ∧ x = .o c' ∧ δ'[i]? = some (some (.o c'))) ∨ (x = a ∧ ∀ c, a ≠ .o c))
  | [], _, _, _, h => by simp [mergeD] at h
  | a :: as, [], 0, x, h => by
    have h' : mg1 a none = some x := Option.some.inj h
    cases a with
    | none => cases h'
    | some a =>
      cases a with
      | o c => cases h'
      | d y => exact ⟨_, rfl, .inr ⟨by cases h'; rfl, fun c z => nomatch z⟩⟩
      | q y => exact ⟨_, rfl, .inr ⟨by cases h'; rfl, fun c z => nomatch z⟩⟩
  | a :: as, [], i + 1, x, h => by
    obtain ⟨a', h1, h2⟩ := mergeD_some (δ := as) (δ' := []) (i := i) (show (mergeD as [])[i]? = some (some x) from h)
    refine ⟨a', h1, ?_⟩
    rcases h2 with ⟨c, c', _, _, z⟩ | h2
    · simp at z
    · exact .inr h2
  | a :: as, b :: bs, 0, x, h => by
    have h' : mg1 a b = some x := Option.some.inj h
    cases a with
    | none => cases b <;> cases h'
    | some a =>
      cases a with
      | o c =>
        cases b with
        | none => cases h'
        | some b =>
          cases b with
          | o c' => exact ⟨_, rfl, .inl ⟨c, c', rfl, by cases h'; rfl, rfl⟩⟩
          | d y => cases h'
          | q y => cases h'
      | d y => exact ⟨_, rfl, .inr ⟨by cases b <;> (cases h'; rfl), fun c z => nomatch z⟩⟩
      | q y => exact ⟨_, rfl, .inr ⟨by cases b <;> (cases h'; rfl), fun c z => nomatch z⟩⟩
  | a :: as, b :: bs, i + 1, x, h => mergeD_some (δ := as) (δ' := bs) (i := i) h
theorem Rel.leave (Rl : Rel K S Y F A H σ δ) {vs : List Nat} {n : Nat} (hn : δ.length ≤ n) {F' H' : Hp} {A' : Nat → Addr} {σ' : L2.St} {δ' : SS} (Ri : Rel K ⟨S.T, n⟩ (innerY F H A (wipeD δ vs)) F' A' H' σ' δ') : Rel K S Y F' A H' σ (mergeD δ δ') := by
  have pin : ∀ {i : Nat} {x : SV}, δ[i]? = some (some x) → A' i = A i := fun {i x} h => Ri.pin i (Nat.lt_of_lt_of_le (List.getElem?_eq_some_iff.mp h).1 hn)
  have oo : ∀ {i : Nat} {c : OC}, (mergeD δ δ')[i]? = some (some (.o c)) → (∃ c0, δ[i]? = some (some (.o c0))) ∧ δ'[i]? = some (some (.o c)) := fun {i c} h => by
    obtain ⟨a, h1, h2⟩ := mergeD_some h
    rcases h2 with ⟨c0, c', rfl, e, h3⟩ | ⟨e, h3⟩
    · cases e
      exact ⟨⟨c0, h1⟩, h3⟩
    · exact absurd e.symm (h3 c)
  refine ⟨Ri.sub, Ri.ntb, Rl.grow.trans Ri.grow, fun b q => ?_, ⟨fun b o q nO nt => ?_, fun b q => Rl.kp.dom b (Ri.kp.dom b q)⟩, Ri.tabs, by rw [mergeD_length]; exact Rl.len, fun i x h => ?_, fun i c h => ?_, fun i j c c' h1 h2 => ?_, Rl.pin, fun i c hi h => ?_, Rl.opar⟩
  · rcases Ri.frs b q with z | z
    · exact Rl.frs b z
    · exact .inr (Rl.kp.dom b z)
  · have q1 := Rl.kp.keep b o q nO nt
    refine Ri.kp.keep b o q1 (fun ⟨i, c, h1, h2⟩ => ?_) nt
    have h1' := (wipeD_some h1).1
    rcases (Rl.own i c h1').2 with z | z
    · exact nO (by rw [← h2]; exact Rl.oadr i c z h1')
    · obtain ⟨ps, y⟩ := z o (by rw [h2]; exact q)
      exact nt ps y
  · obtain ⟨a, h1, h2⟩ := mergeD_some h
    rcases h2 with ⟨c0, c', rfl, rfl, h3⟩ | ⟨rfl, h3⟩
    · obtain ⟨o, g1, _, _⟩ := Rl.own_at h1
      obtain ⟨o', _, g2, g3⟩ := Ri.own_at h3
      rw [pin h1] at g2
      exact ⟨_, g1, rfl, o', g2, g3⟩
    · obtain ⟨v, g1, g2⟩ := Rl.slot i _ h1
      exact ⟨v, g1, g2.mono Ri.grow fun c o e q => absurd e (h3 c)⟩
  · obtain ⟨⟨c0, h1⟩, h2⟩ := oo h
    have g := (Ri.own i c h2).1
    rw [pin h1] at g
    exact ⟨g, (Rl.own i c0 h1).2⟩
  · obtain ⟨⟨c0, g1⟩, _⟩ := oo h1
    obtain ⟨⟨c1, g2⟩, _⟩ := oo h2
    exact Rl.inj i j _ _ g1 g2
  · obtain ⟨⟨c0, g1⟩, _⟩ := oo h
    exact Rl.oadr i c0 hi g1
/-- a fresh list is written -/
theorem Rel.wrF (Rl : Rel K S Y F A H σ δ) {p : Addr} {xs : List V} {o : HO} (fr : Fresh S Y F A H δ p) (hp : H p = some (.lst xs)) : Rel K S Y F A (upd H p o) σ δ := by
  refine ⟨fun b u q => ?_, Rl.ntb, Rl.grow, Rl.frs, ⟨fun b u q n t => ?_, fun b q => ?_⟩, fun q hq => ?_, Rl.len, fun i x h => ?_, Rl.own, Rl.inj, Rl.pin, Rl.oadr, Rl.opar⟩
  · rw [upd_ne (ne_of_none q fr.f)]
    exact Rl.sub b u q
  · rw [upd_ne fun z => by
      obtain ⟨ps, y⟩ := fr.h0 u (by rw [← z]; exact q)
      exact t ps y]
    exact Rl.kp.keep b u q n t
  · by_cases e : b = p
    · rw [e]
      exact fr.h0
    · exact Rl.kp.dom b fun o z => q o (by rw [upd_ne e]; exact z)
  · obtain ⟨ps, h1, h2, h3⟩ := Rl.tabs q hq
    refine ⟨ps, by rw [upd_ne (ne_of h1 hp fun z => nomatch z)]; exact h1, h2, fun pos cv hc => ?_⟩
    obtain ⟨cc, e1, e2⟩ := h3 pos cv hc
    exact ⟨cc, e1, by rw [upd_ne (ne_of e2 hp fun z => by cases z)]; exact e2⟩
  · obtain ⟨v, h1, h2⟩ := Rl.slot i x h
    refine ⟨v, h1, h2.mono (Same.refl F) fun c u e q => ?_⟩
    subst e
    rw [upd_ne (fr.ne i c h)]
    exact q
end
/-! ### what is walked -/
def ItOk (K : Frg) (J : It) (items : List D) (F1 : Hp) : Prop := ∀ (S : Sx) (Y : Dy) (A : Nat → Addr) (σ : L2.St) (δ : SS) (H F : Hp) (i : Nat), Rel K S Y F A H σ δ → Same F1 F →
  (∀ d, items[i]? = some d → J.go i H ∧ ∀ x H', J.yld i H x H' → ∃ F', Rel K S Y F' A H' σ δ ∧ Same F F' ∧ Rp K F' d x) ∧ (items.length ≤ i → J.stop i H)
def IV (X : Cx) (S : Sx) (W : WX) (tg e : Expr) (g : SS → R (List D)) : Prop :=
  ∃ wi, PI X tg e wi ∧ ∀ Y A σ H δ F Q, Rel X.K S Y F A H σ δ → Run X.K X.mg S Y A σ W (fun F' _ _ items J => ItOk X.K J items F') F (g δ) Q → wi σ H Q
section
variable {X : Cx} {S : Sx} {W : WX} {a b e tg : Expr} {es : List Expr} {pos p pos2 : Pos} {ga gb : SS → R D}
theorem itok_list {K : Frg} {F : Hp} {a : Addr} {vs : List V} {ds : List D} (h : F a = some (.lst vs)) (r : Rps K F ds vs) : ItOk K (Itl K a) ds F := fun S Y A σ δ H F' i Rl s => by
  have hs : SqL K H a vs := .inl (.inl (Rl.sub _ _ (s _ _ h)))
  refine ⟨fun d hd => ?_, fun hl => ⟨vs, hs, by rw [r.length]; exact hl⟩⟩
  obtain ⟨v, h1, h2⟩ := r.get hd
  exact ⟨⟨vs, v, hs, h1⟩, fun x H' ⟨e1, e2⟩ => by
    subst e1
    have e3 := e2 vs hs
    rw [h1] at e3
    cases e3
    exact ⟨F', Rl, Same.refl _, h2.mono s⟩⟩
theorem itok_tup {K : Frg} {F : Hp} {a : Addr} {vs : List V} {ds : List D} (h : SqT K F a vs) (r : Rps K F ds vs) : ItOk K (Itt K a) ds F := fun S Y A σ δ H F' i Rl s => by
  have hs : SqT K H a vs := sqt_same (s.trans Rl.sub) h
  refine ⟨fun d hd => ?_, fun hl => ⟨vs, hs, by rw [r.length]; exact hl⟩⟩
  obtain ⟨v, h1, h2⟩ := r.get hd
  exact ⟨⟨vs, v, hs, h1⟩, fun x H' ⟨e1, e2⟩ => by
    subst e1
    have e3 := e2 vs hs
    rw [h1] at e3
    cases e3
    exact ⟨F', Rl, Same.refl _, h2.mono s⟩⟩
def gItL (g : SS → R D) : SS → R (List D) := fun δ => (g δ).bind fun x δ1 => match x with
  | .list xs => .ok xs δ1
  | _ => .bad
def gItT (g : SS → R D) : SS → R (List D) := fun δ => (g δ).bind fun x δ1 => match x with
  | .tuple xs => .ok xs δ1
  | _ => .bad
theorem iv_list (h : EV X S W e ga) : IV X S W tg e (gItL ga) := by
  obtain ⟨t, p, q⟩ := h
  refine ⟨_, pi_list p, fun Y A σ H δ F Q Rl hr => q _ _ _ _ _ _ _ Rl (Run.bind hr fun x δ1 v H1 F1 _ R1 s1 rx h1 => ?_)⟩
  cases rx with
  | lst hx r => exact ⟨_, rfl, ⟨_, .inl (.inl (R1.sub _ _ hx))⟩, h1 _ _ _ R1 (Same.refl _) (itok_list hx r)⟩
  | _ => exact h1.elim
theorem iv_tup (h : EV X S W e ga) : IV X S W tg e (gItT ga) := by
  obtain ⟨t, p, q⟩ := h
  refine ⟨_, pi_tup p, fun Y A σ H δ F Q Rl hr => q _ _ _ _ _ _ _ Rl (Run.bind hr fun x δ1 v H1 F1 _ R1 s1 rx h1 => ?_)⟩
  cases rx with
  | tup hx r => exact ⟨_, rfl, ⟨_, sqt_same R1.sub hx⟩, h1 _ _ _ R1 (Same.refl _) (itok_tup hx r)⟩
  | _ => exact h1.elim
def rangeD (lo : Int) (n : Nat) : List D := (List.range n).map fun i => .int (lo + (i : Nat))
theorem itok_range {K : Frg} {F : Hp} (lo : Int) (n : Nat) : ItOk K (Itr lo n) (rangeD lo n) F := fun S Y A σ δ H F' i Rl s => by
  refine ⟨fun d hd => ?_, fun hl => show n ≤ i by simpa [rangeD] using hl⟩
  unfold rangeD at hd
  rw [List.getElem?_map] at hd
  by_cases hi : i < n
  · rw [List.getElem?_range hi] at hd
    cases hd
    exact ⟨hi, fun x H' ⟨e1, e2⟩ => by
      subst e1
      subst e2
      exact ⟨F', Rl, Same.refl _, .int _⟩⟩
  · rw [List.getElem?_eq_none (by simpa using hi)] at hd
    cases hd
def gRange1 (g : SS → R D) : SS → R (List D) := fun δ => (g δ).bind fun x δ1 => match x with
  | .int j => if -(2 ^ 62) ≤ j ∧ j < 2 ^ 62 then .ok (rangeD 0 j.toNat) δ1 else .bad
  | _ => .bad
theorem iv_range1 (h : EV X S W e ga) (hm : X.mg "range" = none) (hg : Gl X "range" := by rfl) (hs : starEach [e] X.env = [(false, eval e X.env)] := by rfl) : IV X S W tg (.Call (.Name "range" p) [e] [] pos) (gRange1 ga) := by
  obtain ⟨t, pe, q⟩ := h
  refine ⟨_, pi_range1 hg hm (pa_cons pe pa_nil (by rw [hs]; rfl)) hs, fun Y A σ H δ F Q Rl hr => q _ _ _ _ _ _ _ Rl (Run.bind hr fun x δ1 v H1 F1 _ R1 s1 rx h1 => ?_)⟩
  cases rx with
  | int j =>
    by_cases hj : -(2 ^ 62) ≤ j ∧ j < 2 ^ 62
    · have h1' : Run X.K X.mg S Y A σ W (fun F' _ _ items J => ItOk X.K J items F') F1 (if -(2 ^ 62) ≤ j ∧ j < 2 ^ 62 then .ok (rangeD 0 j.toNat) δ1 else .bad) Q := h1
      rw [if_pos hj] at h1'
      exact ⟨j, rfl, hj.1, hj.2, h1' _ _ _ R1 (Same.refl _) (itok_range 0 j.toNat)⟩
    · have h1' : Run X.K X.mg S Y A σ W (fun F' _ _ items J => ItOk X.K J items F') F1 (if -(2 ^ 62) ≤ j ∧ j < 2 ^ 62 then .ok (rangeD 0 j.toNat) δ1 else .bad) Q := h1
      rw [if_neg hj] at h1'
      exact h1'.elim
  | _ => exact h1.elim
def rng2 (i j : Int) : Prop := -(2 ^ 62) ≤ i ∧ i < 2 ^ 62 ∧ -(2 ^ 62) ≤ j ∧ j < 2 ^ 62
instance (i j : Int) : Decidable (rng2 i j) := by unfold rng2; infer_instance
def dRng : D → D → Option (List D)
  | .int i, .int j => if rng2 i j then some (rangeD i (j - i).toNat) else none
  | _, _ => none
theorem dRng_some {x y : D} {ds : List D} (h : dRng x y = some ds) : ∃ i j, x = .int i ∧ y = .int j ∧ rng2 i j ∧ ds = rangeD i (j - i).toNat := by
  cases x <;> cases y <;> simp only [dRng] at h <;> try (cases h)
  split at h
  · rename_i hz
    cases h
    exact ⟨_, _, rfl, rfl, hz, rfl⟩
  · cases h
def gBin {α : Type} (f : D → D → Option α) (ga gb : SS → R D) : SS → R α := fun δ => (ga δ).bind fun x δ1 => (gb δ1).bind fun y δ2 => R.opt (f x y) δ2
theorem iv_range2 (h : EV X S W a ga) (h2 : EV X S W b gb) (hm : X.mg "range" = none) (hg : Gl X "range" := by rfl) (hs : starEach [a, b] X.env = [(false, eval a X.env), (false, eval b X.env)] := by rfl) (hs2 : starEach [b] X.env = [(false, eval b X.env)] := by rfl) : IV X S W tg (.Call (.Name "range" p) [a, b] [] pos) (gBin dRng ga gb) := by
  obtain ⟨t, pe, q⟩ := h
  obtain ⟨t2, pe2, q2⟩ := h2
  refine ⟨_, pi_range2 hg hm (pa_cons pe (pa_cons pe2 pa_nil (by rw [hs2]; rfl)) (by rw [hs, hs2])) hs hs2, fun Y A σ H δ F Q Rl hr => q _ _ _ _ _ _ _ Rl (Run.bind hr fun x δ1 v H1 F1 _ R1 s1 rx h1 => ?_)⟩
  refine q2 _ _ _ _ _ _ _ R1 (Run.bind h1 fun y δ2 u H2 F2 _ R2 s2 ry h2 => ?_)
  obtain ⟨ds, ed, q'⟩ := Run.opt h2
  obtain ⟨i, j, rfl, rfl, hj, rfl⟩ := dRng_some ed
  cases rx
  cases ry
  exact ⟨i, j, rfl, hj, q' _ _ _ R2 (Same.refl _) (itok_range i (j - i).toNat)⟩
def signsD (z : Str) : List D := z.cps.toList.map fun c => .str ⟨#[c]⟩
def gItS (g : SS → R D) : SS → R (List D) := fun δ => (g δ).bind fun x δ1 => match x with
  | .str z => .ok (signsD z) δ1
  | _ => .bad
theorem iv_str (h : EV X S W e ga) : IV X S W tg e (gItS ga) := by
  obtain ⟨t, p, q⟩ := h
  refine ⟨_, pi_str p, fun Y A σ H δ F Q Rl hr => q _ _ _ _ _ _ _ Rl (Run.bind hr fun x δ1 v H1 F1 _ R1 s1 rx h1 => ?_)⟩
  cases rx with
  | str z =>
    refine ⟨z, rfl, h1 _ _ _ R1 (Same.refl _) fun S Y A σ δ H F' i Rl s => ⟨fun d hd => ?_, fun hl => ?_⟩⟩
    · unfold signsD at hd
      rw [List.getElem?_map, Array.getElem?_toList] at hd
      cases hc : z.cps[i]? with
      | none =>
        rw [hc] at hd
        cases hd
      | some c =>
        rw [hc] at hd
        cases hd
        refine ⟨(Array.getElem?_eq_some_iff.mp hc).1, fun x H' ⟨e1, c', e2, e3⟩ => ?_⟩
        subst e1
        rw [hc] at e2
        cases e2
        subst e3
        exact ⟨F', Rl, Same.refl _, .str _⟩
    · have : z.cps.toList.length ≤ i := by simpa [signsD] using hl
      exact this
  | _ => exact h1.elim
/-! zip of two lists or two tuples -/
def zipD (xs ys : List D) : List D := List.zipWith (fun x y => .tuple [x, y]) xs ys
def dZip : D → D → Option (List D)
  | .list xs, .list ys => some (zipD xs ys)
  | .tuple xs, .tuple ys => some (zipD xs ys)
  | _, _ => none
theorem dZip_some {x y : D} {ds : List D} (h : dZip x y = some ds) : ∃ xs ys, ds = zipD xs ys ∧ ((x = .list xs ∧ y = .list ys) ∨ (x = .tuple xs ∧ y = .tuple ys)) := by
  cases x <;> cases y <;> simp only [dZip] at h <;> cases h
  · exact ⟨_, _, rfl, .inl ⟨rfl, rfl⟩⟩
  · exact ⟨_, _, rfl, .inr ⟨rfl, rfl⟩⟩
theorem pair_lay {K : Frg} {Y : Dy} {A : Nat → Addr} {σ : L2.St} {H F : Hp} {δ : SS} {xs : List D} {vs : List V} {p : Addr} (Rl : Rel K S Y F A H σ δ) (r : Rps K F xs vs) (hp : H p = none) :
    ∃ F', Rel K S Y F' A (upd H p (.tup vs)) σ δ ∧ Same F F' ∧ Rp K F' (.tuple xs) (.ref p) := by
  have hF := Rl.sub.free hp
  exact ⟨_, Rl.lay hp (fun _ z => nomatch z), same_upd hF, .tup (.inl (.inl upd_same)) (r.mono (same_upd hF))⟩
theorem zip_get {xs ys : List D} {i : Nat} {d : D} (h : (zipD xs ys)[i]? = some d) : ∃ x y, xs[i]? = some x ∧ ys[i]? = some y ∧ d = .tuple [x, y] := by
  unfold zipD at h
  rw [List.getElem?_zipWith] at h
  cases hx : xs[i]? with
  | none =>
    rw [hx] at h
    cases h
  | some x =>
    cases hy : ys[i]? with
    | none =>
      rw [hx, hy] at h
      cases h
    | some y =>
      rw [hx, hy] at h
      cases h
      exact ⟨x, y, rfl, rfl, rfl⟩
theorem iv_zip {elts : List Expr} {kk : Nat} {tpos : Pos} (h : EV X S W a ga) (h2 : EV X S W b gb) (hm : X.mg "zip" = none) (hg : Gl X "zip" := by rfl) (hs : starEach [a, b] X.env = [(false, eval a X.env), (false, eval b X.env)] := by rfl) (hs2 : starEach [b] X.env = [(false, eval b X.env)] := by rfl) :
    IV X S W (.Tuple elts kk tpos) (.Call (.Name "zip" p) [a, b] [] pos) (gBin dZip ga gb) := by
  obtain ⟨t, pe, q⟩ := h
  obtain ⟨t2, pe2, q2⟩ := h2
  refine ⟨_, RZ.pi_zipA hg hm (pa_cons pe (pa_cons pe2 pa_nil (by rw [hs2]; rfl)) (by rw [hs, hs2])) (by rw [hs, hs2]) (by rw [hs2]; rfl), fun Y A σ H δ F Q Rl hr => q _ _ _ _ _ _ _ Rl (Run.bind hr fun x δ1 v H1 F1 _ R1 s1 rx h1 => ?_)⟩
  refine q2 _ _ _ _ _ _ _ R1 (Run.bind h1 fun y δ2 u H2 F2 _ R2 s2 ry h2 => ?_)
  obtain ⟨ds, ed, q'⟩ := Run.opt h2
  obtain ⟨xs, ys, rfl, ⟨rfl, rfl⟩ | ⟨rfl, rfl⟩⟩ := dZip_some ed
  · cases rx with
    | lst hx r =>
    cases ry with
    | lst hy r2 =>
    have hx' := s2 _ _ hx
    have r' := r.mono s2
    refine ⟨_, _, _, _, rfl, .inl ⟨.inl (.inl (R2.sub _ _ hx')), .inl (.inl (R2.sub _ _ hy)), q' _ _ _ R2 (Same.refl _) fun S Y A σ δ H F' i Rl s => ?_⟩⟩
    have k1 : SqL X.K H _ _ := .inl (.inl (Rl.sub _ _ (s _ _ hx')))
    have k2 : SqL X.K H _ _ := .inl (.inl (Rl.sub _ _ (s _ _ hy)))
    refine ⟨fun d hd => ?_, fun hl => ⟨_, _, k1, k2, ?_⟩⟩
    · obtain ⟨x, y, g1, g2, rfl⟩ := zip_get hd
      obtain ⟨v, h3, h4⟩ := r'.get g1
      obtain ⟨u, h5, h6⟩ := r2.get g2
      refine ⟨⟨_, _, _, _, k1, k2, h3, h5⟩, fun w H' ⟨T, x', y', e1, e2, e3, e4, e5⟩ => ?_⟩
      subst e1 e3
      have z1 := e4 _ k1
      have z2 := e5 _ k2
      rw [h3] at z1
      rw [h5] at z2
      cases z1
      cases z2
      exact pair_lay Rl (.cons (h4.mono s) (.cons (h6.mono s) .nil)) e2
    · rw [r'.length, r2.length]
      simp only [zipD, List.length_zipWith] at hl
      omega
  · cases rx with
    | tup hx r =>
    cases ry with
    | tup hy r2 =>
    have hx' := sqt_same s2 hx
    have r' := r.mono s2
    refine ⟨_, _, _, _, rfl, .inr ⟨sqt_same R2.sub hx', sqt_same R2.sub hy, q' _ _ _ R2 (Same.refl _) fun S Y A σ δ H F' i Rl s => ?_⟩⟩
    have k1 : SqT X.K H _ _ := sqt_same (s.trans Rl.sub) hx'
    have k2 : SqT X.K H _ _ := sqt_same (s.trans Rl.sub) hy
    refine ⟨fun d hd => ?_, fun hl => ⟨_, _, k1, k2, ?_⟩⟩
    · obtain ⟨x, y, g1, g2, rfl⟩ := zip_get hd
      obtain ⟨v, h3, h4⟩ := r'.get g1
      obtain ⟨u, h5, h6⟩ := r2.get g2
      refine ⟨⟨_, _, _, _, k1, k2, h3, h5⟩, fun w H' ⟨T, x', y', e1, e2, e3, e4, e5⟩ => ?_⟩
      subst e1 e3
      have z1 := e4 _ k1
      have z2 := e5 _ k2
      rw [h3] at z1
      rw [h5] at z2
      cases z1
      cases z2
      exact pair_lay Rl (.cons (h4.mono s) (.cons (h6.mono s) .nil)) e2
    · rw [r'.length, r2.length]
      simp only [zipD, List.length_zipWith] at hl
      omega
/-! enumerate of a list -/
def enumD (xs : List D) : List D := xs.zipIdx.map fun p => .tuple [.int (p.2 : Nat), p.1]
theorem enum_get {xs : List D} {i : Nat} {d : D} (h : (enumD xs)[i]? = some d) : ∃ x, xs[i]? = some x ∧ d = .tuple [.int (i : Nat), x] := by
  unfold enumD at h
  rw [List.getElem?_map, List.getElem?_zipIdx] at h
  cases hx : xs[i]? with
  | none =>
    rw [hx] at h
    cases h
  | some x =>
    rw [hx] at h
    cases h
    exact ⟨x, rfl, by simp⟩
theorem iv_enumL {elts : List Expr} {kk : Nat} {tpos : Pos} (h : EV X S W e ga) (hm : X.mg "enumerate" = none) (hg : Gl X "enumerate" := by rfl) (hs : starEach [e] X.env = [(false, eval e X.env)] := by rfl) :
    IV X S W (.Tuple elts kk tpos) (.Call (.Name "enumerate" p) [e] [] pos) (fun δ => (gItL ga δ).bind fun xs δ1 => .ok (enumD xs) δ1) := by
  obtain ⟨t, pe, q⟩ := h
  refine ⟨_, pi_enum hg hm (pa_cons pe pa_nil (by rw [hs]; rfl)) hs, fun Y A σ H δ F Q Rl hr => ?_⟩
  have hr' : Run X.K X.mg S Y A σ W (fun F' _ _ items J => ItOk X.K J items F') F ((ga δ).bind fun x δ1 => (match x with | .list xs => (.ok xs δ1 : R (List D)) | _ => .bad).bind fun xs δ1 => .ok (enumD xs) δ1) Q := by
    unfold gItL at hr
    dsimp only at hr
    cases hg : ga δ <;> (rw [hg] at hr; exact hr)
  refine q _ _ _ _ _ _ _ Rl (Run.bind hr' fun x δ1 v H1 F1 _ R1 s1 rx h1 => ?_)
  cases rx with
  | lst hx r =>
    refine ⟨_, _, rfl, .inl (.inl (R1.sub _ _ hx)), h1 _ _ _ R1 (Same.refl _) fun S Y A σ δ H F' i Rl s => ?_⟩
    have k1 : SqL X.K H _ _ := .inl (.inl (Rl.sub _ _ (s _ _ hx)))
    refine ⟨fun d hd => ?_, fun hl => ⟨_, k1, ?_⟩⟩
    · obtain ⟨x, g1, rfl⟩ := enum_get hd
      obtain ⟨v, h3, h4⟩ := r.get g1
      refine ⟨⟨_, _, k1, h3⟩, fun w H' ⟨T, x', e1, e2, e3, e4⟩ => ?_⟩
      subst e1 e3
      have z1 := e4 _ k1
      rw [h3] at z1
      cases z1
      exact pair_lay Rl (.cons (.int _) (.cons (h4.mono s) .nil)) e2
    · rw [r.length]
      simpa [enumD] using hl
  | _ => exact h1.elim
end
/-! ### targets -/
def GV (X : Cx) (S : Sx) (vs : List Nat) (tg : Expr) (f : D → SS → Option SS) : Prop :=
  ∃ t, PG X tg t ∧ ∀ Y A σ H δ F d v δ' Q, Rel X.K S Y F A H σ δ → Rp X.K F d v → f d δ = some δ' → (∀ σ', Rel X.K S Y F A H σ' δ' → σ'.length = σ.length → (∀ j, j ∉ vs → σ'[j]? = σ[j]?) → Q σ' H) → t v σ H Q
def GVs (X : Cx) (S : Sx) (vs : List Nat) (tgs : List Expr) (f : List D → SS → Option SS) : Prop :=
  ∃ t, PGs X tgs t ∧ ∀ Y A σ H δ F ds us δ' Q, Rel X.K S Y F A H σ δ → Rps X.K F ds us → f ds δ = some δ' → (∀ σ', Rel X.K S Y F A H σ' δ' → σ'.length = σ.length → (∀ j, j ∉ vs → σ'[j]? = σ[j]?) → Q σ' H) → t us σ H Q
def tEG (K : Frg) (S : Sx) (vs : List Nat) (f : D → SS → Option SS) : TG := fun v σ H Q => ∃ Y A δ F d δ', Rel K S Y F A H σ δ ∧ Rp K F d v ∧ f d δ = some δ' ∧ ∀ σ', Rel K S Y F A H σ' δ' → σ'.length = σ.length → (∀ j, j ∉ vs → σ'[j]? = σ[j]?) → Q σ' H
theorem gv_pg {X : Cx} {S : Sx} {vs : List Nat} {tg : Expr} {f : D → SS → Option SS} (h : GV X S vs tg f) : PG X tg (tEG X.K S vs f) := by
  obtain ⟨t, p, q⟩ := h
  refine ⟨fun pins s σ H v u Q I r hw => ?_⟩
  obtain ⟨Y, A, δ, F, d, δ', Rl, rp, e, hq⟩ := hw
  exact p.run pins s σ H v u Q I r (q _ _ _ _ _ _ _ _ _ _ Rl rp e hq)
section
variable {X : Cx} {S : Sx} {W : WX} {pos : Pos}
def fName (i : Nat) : D → SS → Option SS := fun d δ => some (δ.set i (some (.d d)))
theorem gv_name (i : Nat) {vs : List Nat} {x : Str} (hN : X.N.Nodup) (hv : i ∈ vs := by decide) (hi : X.N[i]? = some x := by rfl) (hx : Loc X.env.scope x := by first | exact .inl rfl | exact .inr rfl) (hf : X.fn x = true ∨ X.env.scope.names.lookup x = some .local := by first | exact .inl rfl | exact .inr rfl | assumption) : GV X S vs (.Name x pos) (fName i) := by
  refine ⟨_, pg_name hN hi hx hf, fun Y A σ H δ F d v δ' Q Rl r e hq => ?_⟩
  cases e
  exact hq _ (Rl.setD r) (List.length_set ..) fun j hj => List.getElem?_set_ne (fun z => hj (by rw [← z]; exact hv))
def fNil : List D → SS → Option SS := fun ds δ => match ds with
  | [] => some δ
  | _ => none
def fCons (f : D → SS → Option SS) (fs : List D → SS → Option SS) : List D → SS → Option SS := fun ds δ => match ds with
  | d :: r => (f d δ).bind fun δ1 => fs r δ1
  | [] => none
def fTup (n : Nat) (fs : List D → SS → Option SS) : D → SS → Option SS := fun d δ => match d with
  | .tuple ds => if ds.length = n then fs ds δ else none
  | _ => none
theorem gvs_nil {vs : List Nat} : GVs X S vs [] fNil := by
  refine ⟨_, pgs_nil, fun Y A σ H δ F ds us δ' Q Rl r e hq => ?_⟩
  cases ds with
  | nil =>
    cases r
    cases e
    exact ⟨rfl, hq σ Rl rfl fun _ _ => rfl⟩
  | cons d r => cases e
theorem gvs_cons {vs : List Nat} {e : Expr} {es : List Expr} {f : D → SS → Option SS} {fs : List D → SS → Option SS} (h1 : GV X S vs e f) (h2 : GVs X S vs es fs)
    (hs : (assignEach (e :: es) X.env).map (·.2) = assign e X.env :: (assignEach es X.env).map (·.2) := by rfl) : GVs X S vs (e :: es) (fCons f fs) := by
  obtain ⟨t, p, q⟩ := h1
  obtain ⟨t2, p2, q2⟩ := h2
  refine ⟨_, pgs_cons p p2 hs, fun Y A σ H δ F ds us δ' Q Rl r e hq => ?_⟩
  cases ds with
  | nil => cases e
  | cons d ds =>
    cases r with
    | cons rd rr =>
      have e' : (f d δ).bind (fun δ1 => fs ds δ1) = some δ' := e
      cases ef : f d δ with
      | none =>
        rw [ef] at e'
        cases e'
      | some δ1 =>
        rw [ef] at e'
        exact ⟨_, _, rfl, q _ _ _ _ _ _ _ _ _ _ Rl rd ef fun σ1 R1 l1 k1 => q2 _ _ _ _ _ _ _ _ _ _ R1 rr e' fun σ2 R2 l2 k2 => hq σ2 R2 (l2.trans l1) fun j hj => (k2 j hj).trans (k1 j hj)⟩
theorem gv_tup {vs : List Nat} {es : List Expr} {k n : Nat} {fs : List D → SS → Option SS} (hc : X.calm = true) (h : GVs X S vs es fs) (hn : (assignEach es X.env).length = n := by rfl) (hst : (assignEach es X.env).findIdx? (·.1) = none := by rfl) : GV X S vs (.Tuple es k pos) (fTup n fs) := by
  obtain ⟨t, p, q⟩ := h
  refine ⟨_, pg_tup hc p hn hst, fun Y A σ H δ F d v δ' Q Rl r e hq => ?_⟩
  cases r with
  | @tup a xs ds hx rr =>
    have e' : (if ds.length = n then fs ds δ else none) = some δ' := e
    by_cases hl : ds.length = n
    · rw [if_pos hl] at e'
      exact ⟨a, xs, rfl, sqt_same Rl.sub hx, by rw [rr.length]; exact hl, q _ _ _ _ _ _ _ _ _ _ Rl rr e' hq⟩
    · rw [if_neg hl] at e'
      cases e'
  | _ => cases e
end
/-! ### comprehensions -/
def W0 : WX := fun _ _ _ _ => False
def lcLoop (vs : List Nat) (tg : D → SS → Option SS) (tt : SS → R Bool) (te : SS → R D) : List D → List D → SS → R OC
  | [], ys, δ => .ok (.l ys) δ
  | d :: ds, ys, δ => match tg d (wipeD δ vs) with
    | none => .bad
    | some δ1 => match tt δ1 with
      | .ok true δ2 => (match te δ2 with
        | .ok y δ3 => if ys.length < sizeLine then lcLoop vs tg tt te ds (ys ++ [y]) (mergeD δ δ3) else .bad
        | _ => .bad)
      | .ok false δ2 => lcLoop vs tg tt te ds ys (mergeD δ δ2)
      | _ => .bad
def gLc (vs : List Nat) (src : SS → R (List D)) (tg : D → SS → Option SS) (tt : SS → R Bool) (te : SS → R D) : SS → R OC := fun δ => (src δ).bind fun items δ1 => lcLoop vs tg tt te items [] δ1
def gYes : SS → R Bool := fun δ => .ok true δ
section
variable {X : Cx} {S : Sx} {W : WX} {n : Nat} {vs : List Nat} {src : SS → R (List D)} {ftg : D → SS → Option SS} {gt : SS → R Bool} {ge : SS → R D}
/-- the reading of a comprehension -/
theorem lc_run {wi : TI} (hn : n = X.N.length)
    (qi : ∀ Y A σ H δ F Q, Rel X.K S Y F A H σ δ → Run X.K X.mg S Y A σ W (fun F' _ _ items J => ItOk X.K J items F') F (src δ) Q → wi σ H Q) :
    ∀ Y A σ H δ F Q, σ.length = n → Rel X.K S Y F A H σ δ → Run X.K X.mg S Y A σ W (ρO X.K S Y A) F (gLc vs src ftg gt ge δ) Q →
      tLc wi (tEG X.K ⟨S.T, n⟩ vs ftg) (tTV X.K X.mg ⟨S.T, n⟩ W0 gt) (tEV X.K X.mg ⟨S.T, n⟩ W0 ge) vs σ H Q := fun Y A σ H δ F Q hσ Rl hr => by
  refine qi _ _ _ _ _ _ _ Rl (Run.bind hr fun items δ1 J H1 F1 _ R1 s1 ok h1 => ?_)
  intro p hD
  have fr := R1.fresh hD
  refine ⟨fun i m H => m = items.length - i ∧ i ≤ items.length ∧ ∃ F2 δ2 acc ys, Rel X.K S Y F2 A H σ δ2 ∧ Same F1 F2 ∧ H p = some (.lst acc) ∧ Rps X.K F2 ys acc ∧ Fresh S Y F2 A H δ2 p ∧ Run X.K X.mg S Y A σ W (ρO X.K S Y A) F2 (lcLoop vs ftg gt ge (items.drop i) ys δ2) Q,
    ⟨_, rfl, Nat.zero_le _, F1, δ1, [], [], R1.laid hD, Same.refl _, upd_same, .nil, ⟨fr.f, fr.h0, fr.ne⟩, h1⟩, ?_⟩
  rintro i m H2 ⟨rfl, hi, F2, δ2, acc, ys, R2, s2, hacc, rys, fr2, h2⟩
  have hlen : δ2.length = n := by rw [← R2.len]; exact hσ
  by_cases hlt : i < items.length
  · -- a turn
    obtain ⟨d, hd⟩ : ∃ d, items[i]? = some d := ⟨_, List.getElem?_eq_getElem hlt⟩
    have hdrop : items.drop i = d :: items.drop (i + 1) := by
      rw [List.drop_eq_getElem_cons hlt]
      rw [List.getElem?_eq_getElem hlt] at hd
      cases hd
      rfl
    rw [hdrop] at h2
    have Rw := R2.wipe vs
    have Ri := Rw.enter (n := n) (by rw [wipeD_length, hlen]; exact Nat.le_refl n)
    obtain ⟨go, yl⟩ := (ok _ _ _ _ _ _ _ i Ri s2).1 d hd
    refine .inr ⟨go, fun H' => ∃ m', m' < items.length - i ∧ m' = items.length - (i + 1) ∧ i + 1 ≤ items.length ∧ ∃ F2 δ2 acc ys, Rel X.K S Y F2 A H' σ δ2 ∧ Same F1 F2 ∧ H' p = some (.lst acc) ∧ Rps X.K F2 ys acc ∧ Fresh S Y F2 A H' δ2 p ∧ Run X.K X.mg S Y A σ W (ρO X.K S Y A) F2 (lcLoop vs ftg gt ge (items.drop (i + 1)) ys δ2) Q,
      fun H' ⟨m', q1, q2, q3, q4⟩ => ⟨m', q1, q2, q3, q4⟩, fun x H3 hy => ?_⟩
    obtain ⟨F3, R3, s3, rx⟩ := yl x H3 hy
    unfold lcLoop at h2
    cases etg : ftg d (wipeD δ2 vs) with
    | none =>
      rw [etg] at h2
      exact h2.elim
    | some δ3 =>
      rw [etg] at h2
      dsimp only at h2
      -- what a turn's end is
      have fin : ∀ {F5 H5 : Hp} {δ5 : SS} {σ5 : L2.St} {zs : List D} {ac : List V} {o : List V}, Rel X.K ⟨S.T, n⟩ (innerY F2 H2 A (wipeD δ2 vs)) F5 A H5 σ5 δ5 → Same F2 F5 → Rps X.K F5 zs ac → Run X.K X.mg S Y A σ W (ρO X.K S Y A) F5 (lcLoop vs ftg gt ge (items.drop (i + 1)) zs (mergeD δ2 δ5)) Q →
          H5 p = some (.lst o) → (∃ m', m' < items.length - i ∧ m' = items.length - (i + 1) ∧ i + 1 ≤ items.length ∧ ∃ F2 δ2 acc ys, Rel X.K S Y F2 A (upd H5 p (.lst ac)) σ δ2 ∧ Same F1 F2 ∧ (upd H5 p (.lst ac)) p = some (.lst acc) ∧ Rps X.K F2 ys acc ∧ Fresh S Y F2 A (upd H5 p (.lst ac)) δ2 p ∧ Run X.K X.mg S Y A σ W (ρO X.K S Y A) F2 (lcLoop vs ftg gt ge (items.drop (i + 1)) ys δ2) Q) := fun {F5 H5 δ5 σ5 zs ac o} R5 s5 rz hrun hD5 => by
        have RL := R2.leave (by rw [hlen]; exact Nat.le_refl n) R5
        have frD : Fresh S Y F5 A H5 (mergeD δ2 δ5) p := by
          refine ⟨?_, fr2.h0, fun j c hj => ?_⟩
          · cases hq : F5 p with
            | none => rfl
            | some u =>
              rcases R5.frs p (by rw [hq]; simp) with z | z
              · exact absurd fr2.f z
              · obtain ⟨ps, y⟩ := (show NT H2 p from z) _ hacc
                cases y
          · obtain ⟨a, g1, g2⟩ := mergeD_some hj
            rcases g2 with ⟨c0, c', rfl, _, _⟩ | ⟨e, g3⟩
            · exact fr2.ne j _ g1
            · exact absurd e.symm (g3 c)
        exact ⟨_, by omega, rfl, hlt, F5, mergeD δ2 δ5, ac, zs, RL.wrF frD hD5, s2.trans s5, upd_same, rz, ⟨frD.f, frD.h0, frD.ne⟩, hrun⟩
      have keepD : ∀ {F5 H5 : Hp} {δ5 : SS} {σ5 : L2.St}, Rel X.K ⟨S.T, n⟩ (innerY F2 H2 A (wipeD δ2 vs)) F5 A H5 σ5 δ5 → H5 p = some (.lst acc) := fun {F5 H5 δ5 σ5} R5 =>
        R5.kp.keep p _ hacc (fun ⟨j, c, g1, g2⟩ => fr2.ne j c (wipeD_some g1).1 g2) fun ps z => nomatch z
      refine ⟨_, _, _, _, d, δ3, R3, rx, etg, fun σ4 R4 l4 k4 => ⟨wipe_eq (l4.trans (wipe_length σ vs)) (fun j hj => (k4 j hj).trans (wipe_get hj)), ?_⟩⟩
      cases ett : gt δ3 with
      | bad =>
        rw [ett] at h2
        exact h2.elim
      | ex c f x δ4 =>
        rw [ett] at h2
        exact h2.elim
      | ok bb δ4 =>
        rw [ett] at h2
        refine ⟨_, _, _, _, R4, ?_⟩
        rw [ett]
        intro b2 H5 F5 R5 s5 eb
        have eb' : bb = b2 := eb
        subst eb'
        cases bb with
        | false =>
          refine iteF ?_
          have h2' : Run X.K X.mg S Y A σ W (ρO X.K S Y A) F2 (lcLoop vs ftg gt ge (items.drop (i + 1)) ys (mergeD δ2 δ4)) Q := h2
          have hD5 := keepD R5
          have z := fin R5 (s3.trans s5) (rys.mono (s3.trans s5)) (Run.weak h2' (s3.trans s5)) hD5
          have eu : upd H5 p (.lst acc) = H5 := by
            funext b
            unfold upd
            split
            · rename_i e
              rw [e, hD5]
            · rfl
          rw [eu] at z
          exact z
        | true =>
          refine iteT ?_
          cases ete : ge δ4 with
          | bad =>
            simp only [ete] at h2
            exact h2.elim
          | ex c f x δ5 =>
            simp only [ete] at h2
            exact h2.elim
          | ok y δ5 =>
            simp only [ete] at h2
            by_cases hz : ys.length < sizeLine
            · rw [if_pos hz] at h2
              refine ⟨_, _, _, _, R5, ?_⟩
              rw [ete]
              intro w H6 F6 R6 s6 ry
              have hD6 := keepD R6
              refine ⟨acc, hD6, by rw [rys.length]; exact hz, ?_⟩
              have st := (s3.trans s5).trans s6
              exact fin R6 st ((rys.mono st).append (.cons ry .nil)) (Run.weak h2 st) hD6
            · rw [if_neg hz] at h2
              exact h2.elim
  · -- the end
    have e : i = items.length := by omega
    refine .inl ⟨(ok _ _ _ _ _ _ _ i R2 s2).2 (by omega), ?_⟩
    rw [e, List.drop_length] at h2
    exact h2 _ _ _ R2 (Same.refl _) ⟨p, _, rfl, hacc, .l rys, fr2⟩
variable {elt tg iter : Expr} {scope : Scope} {own : List (Str × Nat)} {pos : Pos}
/-- a clause's tests -/
def PTV (X : Cx) (S : Sx) (W : WX) (ifs : List Expr) (g : SS → R Bool) : Prop := PTs X ifs (tTV X.K X.mg S W g)
theorem ptv_nil : PTV X S W [] gYes := ⟨fun pins s σ H Q I hw => by
  obtain ⟨Y, A, δ, F, Rl, hr⟩ := hw
  exact (pts_nil (X := X)).run pins s σ H Q I (hr _ _ _ Rl (Same.refl _) rfl)⟩
theorem ptv_one {c : Expr} {g : SS → R Bool} (h : TV X S W c g) : PTV X S W [c] g := pts_one (tv_pt h)
theorem inv_len {pins : List (Addr × Obj)} {σ : L2.St} {H : Hp} {s : Shared} (I : Inv X pins σ H s) : σ.length = X.N.length := I.len
theorem pe_len {e : Expr} {t : TE} {t' : TE} (h : PE X e t) (k : ∀ σ H Q, σ.length = X.N.length → t' σ H Q → t σ H Q) : PE X e t' := ⟨fun pins s σ H Q I hw => h.run pins s σ H Q I (k σ H Q I.len hw)⟩
/-- [elt for tg in iter if ..] -/
theorem eo_lc {ifs : List Expr} (hc : X.calm = true) (hN : X.N.Nodup) (hn : X.N.length = n) (hi : IV X S W tg iter src) (ok : BlkOk X.N X.env.scope scope own)
    (hg : ∀ (s : Shared) (H : Hp) (C : Addr) (cl : List (Str × Addr)) (fp : List Addr), GV (X.blk s H scope (compEnvC scope cl C X.env) fp) ⟨S.T, n⟩ (own.map (·.2)) tg ftg)
    (ht : ∀ (s : Shared) (H : Hp) (C : Addr) (cl : List (Str × Addr)) (fp : List Addr), PTV (X.blk s H scope (compEnvC scope cl C X.env) fp) ⟨S.T, n⟩ W0 ifs gt)
    (he : ∀ (s : Shared) (H : Hp) (C : Addr) (cl : List (Str × Addr)) (fp : List Addr), EV (X.blk s H scope (compEnvC scope cl C X.env) fp) ⟨S.T, n⟩ W0 elt ge) (hs : ∀ x, foldedSetIterable iter X.env x = pure x := by intro _; rfl) :
    EO X S W (.ListComp elt [⟨tg, iter, ifs, 0⟩] scope pos) (gLc (own.map (·.2)) src ftg gt ge) := by
  obtain ⟨wi, pi, qi⟩ := hi
  have P := pe_lc (pos := pos) (g := tEG X.K ⟨S.T, n⟩ (own.map (·.2)) ftg) (tt := tTV X.K X.mg ⟨S.T, n⟩ W0 gt) (te := tEV X.K X.mg ⟨S.T, n⟩ W0 ge) hc hN pi ok (fun s H C cl fp => gv_pg (hg s H C cl fp)) (fun s H C cl fp => ht s H C cl fp) (fun s H C cl fp => ev_pe (he s H C cl fp)) hs
  refine ⟨fun σ H Q => ∃ Y A δ F, Rel X.K S Y F A H σ δ ∧ Run X.K X.mg S Y A σ W (ρO X.K S Y A) F (gLc (own.map (·.2)) src ftg gt ge δ) Q, pe_len P fun σ H Q hl hw => ?_, fun Y A σ H δ F Q Rl hr => ⟨Y, A, δ, F, Rl, hr⟩⟩
  obtain ⟨Y, A, δ, F, Rl, hr⟩ := hw
  exact lc_run hn.symm qi Y A σ H δ F Q (hl.trans hn) Rl hr
end
end DL
set_option Elab.async false
set_option linter.all false
set_option maxRecDepth 100000
set_option maxHeartbeats 4000000
namespace DL
open PySem PySem.Spec PyProof.Rows L2
/-! ### statements -/
inductive RV where
  | d (x : D)
  | o (c : OC)
@[simp] def RV.toD : RV → D
  | .d x => x
  | .o c => c.toD
inductive Fl where
  | nx | bk | ct
  | rt (r : RV)
def RvR (K : Frg) (S : Sx) (Y : Dy) (A : Nat → Addr) (F H : Hp) (δ : SS) : RV → V → Prop
  | .d x, v => Rp K F x v
  | .o c, v => ρO K S Y A F H δ c v
def RunS (K : Frg) (mg : Str → Option Value) (S : Sx) (Y : Dy) (W : WX) (F : Hp) (E : Ends) (r : R Fl) : Prop :=
  match r with
  | .bad => False
  | .ok .nx δ' => ∀ σ' H' F' A', Rel K S Y F' A' H' σ' δ' → Same F F' → E.nx σ' H'
  | .ok .bk δ' => ∀ σ' H' F' A', Rel K S Y F' A' H' σ' δ' → Same F F' → E.bk σ' H'
  | .ok .ct δ' => ∀ σ' H' F' A', Rel K S Y F' A' H' σ' δ' → Same F F' → E.ct σ' H'
  | .ok (.rt r) δ' => ∀ v σ' H' F' A', Rel K S Y F' A' H' σ' δ' → Same F F' → RvR K S Y A' F' H' δ' r v → E.rt v H'
  | .ex c f x δ' => ∀ cls dd σ' H' F' A', Rel K S Y F' A' H' σ' δ' → Same F F' → ExR K mg F' H' c f x cls dd → W cls dd σ' H'
section
variable {K : Frg} {mg : Str → Option Value} {S : Sx} {Y : Dy} {W : WX} {F F' : Hp}
theorem RunS.weak {E : Ends} {r : R Fl} (h : RunS K mg S Y W F E r) (e : Same F F') : RunS K mg S Y W F' E r := by
  cases r with
  | bad => exact h
  | ok a δ =>
    cases a with
    | nx => exact fun σ' H' F2 A' R s => h σ' H' F2 A' R (e.trans s)
    | bk => exact fun σ' H' F2 A' R s => h σ' H' F2 A' R (e.trans s)
    | ct => exact fun σ' H' F2 A' R s => h σ' H' F2 A' R (e.trans s)
    | rt r => exact fun v σ' H' F2 A' R s q => h v σ' H' F2 A' R (e.trans s) q
  | ex c f x δ => exact fun cls dd σ' H' F2 A' R s q => h cls dd σ' H' F2 A' R (e.trans s) q
/-- an expression's answer, then a statement's -/
theorem RunS.bind {α β : Type} {A : Nat → Addr} {σ : L2.St} {ρ : Hp → Hp → SS → α → β → Prop} {E : Ends} {r : R α} {k : α → SS → R Fl} {Q1 : β → Hp → Prop} (h : RunS K mg S Y W F E (r.bind k))
    (hk : ∀ a δ1 b H1 F1, r = .ok a δ1 → Rel K S Y F1 A H1 σ δ1 → Same F F1 → ρ F1 H1 δ1 a b → RunS K mg S Y W F1 E (k a δ1) → Q1 b H1) : Run K mg S Y A σ W ρ F r Q1 := by
  cases r with
  | bad => exact h
  | ok a δ => exact fun b H' F2 R s q => hk a δ b H' F2 rfl R s q (RunS.weak h s)
  | ex c f x δ => exact fun cls dd H' F2 R s q => h cls dd σ H' F2 A R s q
end
def ST (X : Cx) (S : Sx) (W : WX) (st : Stmt) (g : SS → R Fl) : Prop :=
  ∃ t, PS X st t ∧ ∀ Y A σ H δ F E, σ.length = X.N.length → Rel X.K S Y F A H σ δ → RunS X.K X.mg S Y W F E (g δ) → t E σ H
def STs (X : Cx) (S : Sx) (W : WX) (st : List Stmt) (g : SS → R Fl) : Prop :=
  ∃ t, PSs X st t ∧ ∀ Y A σ H δ F E, σ.length = X.N.length → Rel X.K S Y F A H σ δ → RunS X.K X.mg S Y W F E (g δ) → t E σ H
theorem ps_len {X : Cx} {st : Stmt} {t t' : TS} (h : PS X st t) (k : ∀ E σ H, σ.length = X.N.length → t' E σ H → t E σ H) : PS X st t' := ⟨fun pins s σ H E I hw => h.run pins s σ H E I (k E σ H I.len hw)⟩
theorem pss_len {X : Cx} {st : List Stmt} {t t' : TS} (h : PSs X st t) (k : ∀ E σ H, σ.length = X.N.length → t' E σ H → t E σ H) : PSs X st t' := ⟨fun pins s σ H E I hw => h.run pins s σ H E I (k E σ H I.len hw)⟩
def tST (K : Frg) (mg : Str → Option Value) (S : Sx) (W : WX) (g : SS → R Fl) : TS := fun E σ H => ∃ Y A δ F, Rel K S Y F A H σ δ ∧ RunS K mg S Y W F E (g δ)
section
variable {X : Cx} {S : Sx} {W : WX} {a b e tg : Expr} {st : Stmt} {sts sts2 : List Stmt} {pos pos2 p : Pos} {ga gb : SS → R D} {g g1 g2 : SS → R Fl}
theorem sts_ps (h : STs X S W sts g) : PSs X sts (tST X.K X.mg S W g) := by
  obtain ⟨t, p, q⟩ := h
  refine pss_len p fun E σ H hl hw => ?_
  obtain ⟨Y, A, δ, F, Rl, hr⟩ := hw
  exact q _ _ _ _ _ _ _ hl Rl hr
theorem st_ps (h : ST X S W st g) : PS X st (tST X.K X.mg S W g) := by
  obtain ⟨t, p, q⟩ := h
  refine ps_len p fun E σ H hl hw => ?_
  obtain ⟨Y, A, δ, F, Rl, hr⟩ := hw
  exact q _ _ _ _ _ _ _ hl Rl hr
def gSkip : SS → R Fl := fun δ => .ok .nx δ
def gSeq (g1 g2 : SS → R Fl) : SS → R Fl := fun δ => match g1 δ with
  | .ok .nx δ1 => g2 δ1
  | r => r
theorem sts_nil : STs X S W [] gSkip := ⟨_, pss_nil, fun Y A σ H δ F E hl Rl h => h σ H F A Rl (Same.refl F)⟩
theorem sts_cons (h1 : ST X S W st g1) (h2 : STs X S W sts g2) : STs X S W (st :: sts) (gSeq g1 g2) := by
  have p2 := sts_ps h2
  obtain ⟨t, p1, q1⟩ := h1
  refine ⟨_, pss_cons p1 p2, fun Y A σ H δ F E hl Rl h => q1 _ _ _ _ _ _ _ hl Rl ?_⟩
  unfold gSeq at h
  cases hg : g1 δ with
  | bad =>
    rw [hg] at h
    exact h
  | ex c f x δ1 =>
    rw [hg] at h
    exact h
  | ok fl δ1 =>
    rw [hg] at h
    cases fl with
    | nx => exact fun σ' H' F' A' R' s => ⟨Y, A', δ1, F', R', RunS.weak h s⟩
    | bk => exact h
    | ct => exact h
    | rt r => exact h
theorem sts_one (h1 : ST X S W st g1) : STs X S W [st] g1 := by
  obtain ⟨t, p1, q1⟩ := h1
  exact ⟨_, pss_one p1, q1⟩
theorem st_pass : ST X S W (.Pass pos) gSkip := ⟨_, ps_pass, fun Y A σ H δ F E hl Rl h => h σ H F A Rl (Same.refl F)⟩
def gBrk : SS → R Fl := fun δ => .ok .bk δ
def gCnt : SS → R Fl := fun δ => .ok .ct δ
theorem st_break : ST X S W (.Break pos) gBrk := ⟨_, ps_break, fun Y A σ H δ F E hl Rl h => h σ H F A Rl (Same.refl F)⟩
theorem st_continue : ST X S W (.Continue pos) gCnt := ⟨_, ps_continue, fun Y A σ H δ F E hl Rl h => h σ H F A Rl (Same.refl F)⟩
theorem st_doc {x : Str} {j : Nat} : ST X S W (.Expr (.Constant (.str x) j pos) pos2) gSkip := ⟨_, ps_doc, fun Y A σ H δ F E hl Rl h => h σ H F A Rl (Same.refl F)⟩
def gDrop (g : SS → R D) : SS → R Fl := fun δ => (g δ).bind fun _ δ1 => .ok .nx δ1
theorem st_expr (h : EV X S W e ga) (hs : swapsWith e none pos.line X.env = pure false := by rfl) : ST X S W (.Expr e pos) (gDrop ga) := by
  obtain ⟨t, p, q⟩ := h
  exact ⟨_, ps_expr p hs, fun Y A σ H δ F E hl Rl h => q _ _ _ _ _ _ _ Rl (RunS.bind h fun x δ1 v H1 F1 _ R1 s1 rx h1 => h1 _ _ _ _ R1 (Same.refl _))⟩
def gRet (g : SS → R D) : SS → R Fl := fun δ => (g δ).bind fun x δ1 => .ok (.rt (.d x)) δ1
def gRetO (g : SS → R OC) : SS → R Fl := fun δ => (g δ).bind fun x δ1 => .ok (.rt (.o x)) δ1
theorem st_ret (h : EV X S W e ga) : ST X S W (.Return (some e) pos) (gRet ga) := by
  obtain ⟨t, p, q⟩ := h
  exact ⟨_, ps_ret p, fun Y A σ H δ F E hl Rl h => q _ _ _ _ _ _ _ Rl (RunS.bind h fun x δ1 v H1 F1 _ R1 s1 rx h1 => h1 _ _ _ _ _ R1 (Same.refl _) rx)⟩
theorem st_retO {go : SS → R OC} (h : EO X S W e go) : ST X S W (.Return (some e) pos) (gRetO go) := by
  obtain ⟨t, p, q⟩ := h
  exact ⟨_, ps_ret p, fun Y A σ H δ F E hl Rl h => q _ _ _ _ _ _ _ Rl (RunS.bind h fun x δ1 v H1 F1 _ R1 s1 rx h1 => h1 _ _ _ _ _ R1 (Same.refl _) rx)⟩
theorem st_retN : ST X S W (.Return none pos) (gRet (gC .none)) := ⟨_, ps_retN, fun Y A σ H δ F E hl Rl h => h _ _ _ _ _ Rl (Same.refl _) .non⟩
/-- return found, an own object of the def's -/
def gRetOwn (i : Nat) : SS → R Fl := fun δ => match δ[i]? with
  | some (some (.o c)) => .ok (.rt (.o c)) (δ.set i none)
  | _ => .bad
theorem st_retOwn (i : Nat) {x : Str} (hi : S.np ≤ i) (hN : X.N[i]? = some x := by rfl) (hv : Vis X.env.scope x := by first | exact Or.inl rfl | exact Or.inr (Or.inl rfl) | exact Or.inr (Or.inr rfl)) (hd : (x == ("__debug__" : Str)) = false := by decide)
    (hcd : (x == ("__classdict__" : Str)) = false := by decide) : ST X S W (.Return (some (.Name x p)) pos) (gRetOwn i) := by
  refine ⟨_, ps_ret (pe_var hN hv hd hcd), fun Y A σ H δ F E hl Rl h => ?_⟩
  unfold gRetOwn at h
  split at h
  · rename_i c e
    obtain ⟨o, h1, h2, h3⟩ := Rl.own_at e
    obtain ⟨h4, h5⟩ := Rl.own i c e
    have h0 : NT Y.H0 (A i) := h5.elim (fun z => absurd z (by omega)) fun z => z
    exact ⟨_, h1, h _ _ _ _ _ (Rl.drop i) (Same.refl _) ⟨A i, o, rfl, h2, h3, ⟨h4, h0, fun j c' hj e' => (set_none hj).1 (Rl.inj j i _ _ (set_none hj).2 e e')⟩⟩⟩
  · exact h.elim
def gIf (gt : SS → R Bool) (g1 g2 : SS → R Fl) : SS → R Fl := fun δ => (gt δ).bind fun k δ1 => if k = true then g1 δ1 else g2 δ1
theorem st_if {gt : SS → R Bool} (h : TV X S W e gt) (h1 : STs X S W sts g1) (h2 : STs X S W sts2 g2) : ST X S W (.If e sts sts2 pos) (gIf gt g1 g2) := by
  obtain ⟨t, p, q⟩ := h
  obtain ⟨t1, p1, q1⟩ := h1
  obtain ⟨t2, p2, q2⟩ := h2
  refine ⟨_, ps_if p p1 p2, fun Y A σ H δ F E hl Rl h => q _ _ _ _ _ _ _ Rl (RunS.bind h fun x δ1 v H1 F1 _ R1 s1 e1 h1 => ?_)⟩
  have e1' : x = v := e1
  subst e1'
  cases x with
  | true => exact iteT (q1 _ _ _ _ _ _ _ hl R1 h1)
  | false => exact iteF (q2 _ _ _ _ _ _ _ hl R1 h1)
def gAsg (i : Nat) (g : SS → R D) : SS → R Fl := fun δ => (g δ).bind fun x δ1 => .ok .nx (δ1.set i (some (.d x)))
def gAsgO (i : Nat) (g : SS → R OC) : SS → R Fl := fun δ => (g δ).bind fun x δ1 => .ok .nx (δ1.set i (some (.o x)))
theorem st_set (i : Nat) {x : Str} (hN : X.N.Nodup) (h : EV X S W e ga) (hi : X.N[i]? = some x := by rfl) (hx : Loc X.env.scope x := by first | exact .inl rfl | exact .inr rfl) (hs : swapsWith e (some (.Name x pos2)) pos.line X.env = pure false := by rfl) (hf : X.fn x = true ∨ X.env.scope.names.lookup x = some .local := by first | exact .inl rfl | exact .inr rfl | assumption) : ST X S W (.Assign [.Name x pos2] e pos) (gAsg i ga) := by
  obtain ⟨t, p, q⟩ := h
  exact ⟨_, ps_set hN hi hx p hs hf, fun Y A σ H δ F E hl Rl h => q _ _ _ _ _ _ _ Rl (RunS.bind h fun x δ1 v H1 F1 _ R1 s1 rx h1 => h1 _ _ _ _ (R1.setD rx) (Same.refl _))⟩
theorem st_setO (i : Nat) {x : Str} {go : SS → R OC} (hN : X.N.Nodup) (h : EO X S W e go) (hp : S.np ≤ i) (hi : X.N[i]? = some x := by rfl) (hx : Loc X.env.scope x := by first | exact .inl rfl | exact .inr rfl) (hs : swapsWith e (some (.Name x pos2)) pos.line X.env = pure false := by rfl) (hf : X.fn x = true ∨ X.env.scope.names.lookup x = some .local := by first | exact .inl rfl | exact .inr rfl | assumption) : ST X S W (.Assign [.Name x pos2] e pos) (gAsgO i go) := by
  obtain ⟨t, p, q⟩ := h
  refine ⟨_, ps_set hN hi hx p hs hf, fun Y A σ H δ F E hl Rl h => q _ _ _ _ _ _ _ Rl (RunS.bind h fun x δ1 v H1 F1 _ R1 s1 rx h1 => ?_)⟩
  obtain ⟨p, o, rfl, e2, r, fr⟩ := rx
  exact h1 _ _ _ _ (R1.setO hp e2 r fr) (Same.refl _)
/-! y = [..] on one line -/
variable {n : Nat} {vs : List Nat} {src : SS → R (List D)} {ftg : D → SS → Option SS} {gt : SS → R Bool} {ge : SS → R D} {elt iter : Expr} {scope : Scope} {own : List (Str × Nat)} {ifs : List Expr}
theorem lc_ps {y : Str} {py spos : Pos} (i : Nat) (hc : X.calm = true) (hN : X.N.Nodup) (hn : X.N.length = n) (hy : X.N[i]? = some y) (hyl : X.env.scope.names.lookup y = some .local)
    (hsw : swapsWith (.ListComp elt [⟨tg, iter, ifs, 0⟩] scope pos) (some (.Name y py)) spos.line X.env = pure true) {wi : TI} (hi : PI X tg iter wi)
    (qi : ∀ Y A σ H δ F Q, Rel X.K S Y F A H σ δ → Run X.K X.mg S Y A σ W (fun F' _ _ items J => ItOk X.K J items F') F (src δ) Q → wi σ H Q) (ok : BlkOk X.N X.env.scope scope own)
    (hg : ∀ (s : Shared) (H : Hp) (C : Addr) (cl : List (Str × Addr)) (fp : List Addr), GV (X.blk s H scope (compEnvC scope cl C X.env) fp) ⟨S.T, n⟩ (own.map (·.2)) tg ftg)
    (ht : ∀ (s : Shared) (H : Hp) (C : Addr) (cl : List (Str × Addr)) (fp : List Addr), PTV (X.blk s H scope (compEnvC scope cl C X.env) fp) ⟨S.T, n⟩ W0 ifs gt)
    (he : ∀ (s : Shared) (H : Hp) (C : Addr) (cl : List (Str × Addr)) (fp : List Addr), EV (X.blk s H scope (compEnvC scope cl C X.env) fp) ⟨S.T, n⟩ W0 elt ge) (hs : ∀ x, foldedSetIterable iter X.env x = pure x := by intro _; rfl) :
    PS X (.Assign [.Name y py] (.ListComp elt [⟨tg, iter, ifs, 0⟩] scope pos) spos) (fun E σ H => ∃ Y A δ F, Rel X.K S Y F A H σ δ ∧ Run X.K X.mg S Y A σ W (ρO X.K S Y A) F (gLc (own.map (·.2)) src ftg gt ge δ) fun x H1 => E.nx (σ.set i (some x)) H1) := by
  have P := ps_setLc (i := i) (y := y) (py := py) (pos := pos) (spos := spos) (g := tEG X.K ⟨S.T, n⟩ (own.map (·.2)) ftg) (tt := tTV X.K X.mg ⟨S.T, n⟩ W0 gt) (te := tEV X.K X.mg ⟨S.T, n⟩ W0 ge) hc hN hy hyl hsw hi ok (fun s H C cl fp => gv_pg (hg s H C cl fp)) (fun s H C cl fp => ht s H C cl fp) (fun s H C cl fp => ev_pe (he s H C cl fp)) hs
  refine ps_len P fun E σ H hl hw => ?_
  obtain ⟨Y, A, δ, F, Rl, hr⟩ := hw
  exact lc_run hn.symm qi Y A σ H δ F _ (hl.trans hn) Rl hr
theorem st_setLc {y : Str} {py spos : Pos} (i : Nat) (hc : X.calm = true) (hN : X.N.Nodup) (hn : X.N.length = n) (hi : IV X S W tg iter src) (ok : BlkOk X.N X.env.scope scope own)
    (hsw : swapsWith (.ListComp elt [⟨tg, iter, ifs, 0⟩] scope pos) (some (.Name y py)) spos.line X.env = pure true)
    (hg : ∀ (s : Shared) (H : Hp) (C : Addr) (cl : List (Str × Addr)) (fp : List Addr), GV (X.blk s H scope (compEnvC scope cl C X.env) fp) ⟨S.T, n⟩ (own.map (·.2)) tg ftg)
    (ht : ∀ (s : Shared) (H : Hp) (C : Addr) (cl : List (Str × Addr)) (fp : List Addr), PTV (X.blk s H scope (compEnvC scope cl C X.env) fp) ⟨S.T, n⟩ W0 ifs gt)
    (he : ∀ (s : Shared) (H : Hp) (C : Addr) (cl : List (Str × Addr)) (fp : List Addr), EV (X.blk s H scope (compEnvC scope cl C X.env) fp) ⟨S.T, n⟩ W0 elt ge) (hy : X.N[i]? = some y := by rfl) (hyl : X.env.scope.names.lookup y = some .local := by rfl) (hs : ∀ x, foldedSetIterable iter X.env x = pure x := by intro _; rfl) :
    ST X S W (.Assign [.Name y py] (.ListComp elt [⟨tg, iter, ifs, 0⟩] scope pos) spos) (gAsg i (gD (gLc (own.map (·.2)) src ftg gt ge))) := by
  obtain ⟨wi, pi, qi⟩ := hi
  refine ⟨_, lc_ps i hc hN hn hy hyl hsw pi qi ok hg ht he hs, fun Y A σ H δ F E hl Rl h => ⟨Y, A, δ, F, Rl, ?_⟩⟩
  unfold gAsg gD at h
  have h' : RunS X.K X.mg S Y W F E ((gLc (own.map (·.2)) src ftg gt ge δ).bind fun c δ1 => .ok .nx (δ1.set i (some (.d c.toD)))) := by
    cases hg : gLc (own.map (·.2)) src ftg gt ge δ <;> (rw [hg] at h; exact h)
  refine RunS.bind h' fun x δ1 v H1 F1 _ R1 s1 rx h1 => ?_
  obtain ⟨p, o, rfl, e2, r, fr⟩ := rx
  exact h1 _ _ _ _ ((R1.freeze e2 fr r.ntb).setD ((r.mono (same_upd fr.f)).rp upd_same)) (same_upd fr.f)
theorem st_setLcO {y : Str} {py spos : Pos} (i : Nat) (hc : X.calm = true) (hN : X.N.Nodup) (hn : X.N.length = n) (hi : IV X S W tg iter src) (ok : BlkOk X.N X.env.scope scope own)
    (hsw : swapsWith (.ListComp elt [⟨tg, iter, ifs, 0⟩] scope pos) (some (.Name y py)) spos.line X.env = pure true)
    (hg : ∀ (s : Shared) (H : Hp) (C : Addr) (cl : List (Str × Addr)) (fp : List Addr), GV (X.blk s H scope (compEnvC scope cl C X.env) fp) ⟨S.T, n⟩ (own.map (·.2)) tg ftg)
    (ht : ∀ (s : Shared) (H : Hp) (C : Addr) (cl : List (Str × Addr)) (fp : List Addr), PTV (X.blk s H scope (compEnvC scope cl C X.env) fp) ⟨S.T, n⟩ W0 ifs gt)
    (he : ∀ (s : Shared) (H : Hp) (C : Addr) (cl : List (Str × Addr)) (fp : List Addr), EV (X.blk s H scope (compEnvC scope cl C X.env) fp) ⟨S.T, n⟩ W0 elt ge) (hp : S.np ≤ i) (hy : X.N[i]? = some y := by rfl) (hyl : X.env.scope.names.lookup y = some .local := by rfl) (hs : ∀ x, foldedSetIterable iter X.env x = pure x := by intro _; rfl) :
    ST X S W (.Assign [.Name y py] (.ListComp elt [⟨tg, iter, ifs, 0⟩] scope pos) spos) (gAsgO i (gLc (own.map (·.2)) src ftg gt ge)) := by
  obtain ⟨wi, pi, qi⟩ := hi
  refine ⟨_, lc_ps i hc hN hn hy hyl hsw pi qi ok hg ht he hs, fun Y A σ H δ F E hl Rl h => ⟨Y, A, δ, F, Rl, RunS.bind h fun x δ1 v H1 F1 _ R1 s1 rx h1 => ?_⟩⟩
  obtain ⟨p, o, rfl, e2, r, fr⟩ := rx
  exact h1 _ _ _ _ (R1.setO hp e2 r fr) (Same.refl _)
/-! (a, b, ..) = e -/
def gAsgT (f : D → SS → Option SS) (g : SS → R D) : SS → R Fl := fun δ => (g δ).bind fun x δ1 => match f x δ1 with
  | some δ2 => .ok .nx δ2
  | none => .bad
theorem st_asg {vs : List Nat} {f : D → SS → Option SS} (h : EV X S W e ga) (hg : GV X S vs tg f) (hs : swapsWithSole [tg] e pos.line X.env = pure false := by rfl) (hw : swappedStores [tg] e X.env = pure none := by rfl)
    (h1 : (assignEach [tg] X.env).map (·.2) = [assign tg X.env] := by rfl) : ST X S W (.Assign [tg] e pos) (gAsgT f ga) := by
  obtain ⟨t, p, q⟩ := h
  obtain ⟨t2, p2, q2⟩ := hg
  refine ⟨_, ps_asg p p2 hs hw h1, fun Y A σ H δ F E hl Rl h => q _ _ _ _ _ _ _ Rl (RunS.bind h fun x δ1 v H1 F1 _ R1 s1 rx h1 => ?_)⟩
  cases ef : f x δ1 with
  | none =>
    rw [ef] at h1
    exact h1.elim
  | some δ2 =>
    rw [ef] at h1
    exact q2 _ _ _ _ _ _ _ _ _ _ R1 rx ef fun σ' R2 _ _ => h1 _ _ _ _ R2 (Same.refl _)
/-! a, b = x, y with plain local names -/
def gPar (i j : Nat) (ga gb : SS → R D) : SS → R Fl := fun δ => (ga δ).bind fun x δ1 => (gb δ1).bind fun y δ2 => .ok .nx ((δ2.set i (some (.d x))).set j (some (.d y)))
def gParO (i j : Nat) (ga : SS → R D) (gb : SS → R OC) : SS → R Fl := fun δ => (ga δ).bind fun x δ1 => (gb δ1).bind fun y δ2 => .ok .nx ((δ2.set i (some (.d x))).set j (some (.o y)))
variable {x y z : Str} {px py pz pt : Pos} {kt k2 : Nat} {pt2 : Pos}
theorem st_par (i j : Nat) (hc : X.calm = true) (hN : X.N.Nodup) (ha : EV X S W a ga) (hb : EV X S W b gb) (hij : i ≠ j := by decide) (hi : X.N[i]? = some x := by rfl) (hj : X.N[j]? = some y := by rfl)
    (hx : X.env.scope.names.lookup x = some .local := by rfl) (hy : X.env.scope.names.lookup y = some .local := by rfl)
    (hw : swappedStores [.Tuple [.Name x px, .Name y py] kt pt] (.Tuple [a, b] k2 pt2) X.env = pure (some [x, y]) := by rfl)
    (hs : swapsWithSole [.Tuple [.Name x px, .Name y py] kt pt] (.Tuple [a, b] k2 pt2) pos.line X.env = pure false := by rfl) (hsa : starEach [a, b] X.env = (false, eval a X.env) :: starEach [b] X.env := by rfl) (hsb : starEach [b] X.env = (false, eval b X.env) :: starEach [] X.env := by rfl) :
    ST X S W (.Assign [.Tuple [.Name x px, .Name y py] kt pt] (.Tuple [a, b] k2 pt2) pos) (gPar i j ga gb) := by
  obtain ⟨t, p, q⟩ := ha
  obtain ⟨t2, p2, q2⟩ := hb
  refine ⟨_, ps_par hc hN hi hj hij hx hy (pa_cons p (pa_cons p2 pa_nil hsb) hsa) hw hs, fun Y A σ H δ F E hl Rl h => q _ _ _ _ _ _ _ Rl (RunS.bind h fun x δ1 v H1 F1 _ R1 s1 rx h1 => ?_)⟩
  refine q2 _ _ _ _ _ _ _ R1 (RunS.bind h1 fun y δ2 u H2 F2 _ R2 s2 ry h2 => ?_)
  exact ⟨v, u, rfl, h2 _ _ _ _ ((R2.setD (rx.mono s2)).setD ry) (Same.refl _)⟩
theorem st_parO (i j : Nat) {gb : SS → R OC} (hc : X.calm = true) (hN : X.N.Nodup) (ha : EV X S W a ga) (hb : EO X S W b gb) (hp : S.np ≤ j) (hij : i ≠ j := by decide) (hi : X.N[i]? = some x := by rfl) (hj : X.N[j]? = some y := by rfl)
    (hx : X.env.scope.names.lookup x = some .local := by rfl) (hy : X.env.scope.names.lookup y = some .local := by rfl)
    (hw : swappedStores [.Tuple [.Name x px, .Name y py] kt pt] (.Tuple [a, b] k2 pt2) X.env = pure (some [x, y]) := by rfl)
    (hs : swapsWithSole [.Tuple [.Name x px, .Name y py] kt pt] (.Tuple [a, b] k2 pt2) pos.line X.env = pure false := by rfl) (hsa : starEach [a, b] X.env = (false, eval a X.env) :: starEach [b] X.env := by rfl) (hsb : starEach [b] X.env = (false, eval b X.env) :: starEach [] X.env := by rfl) :
    ST X S W (.Assign [.Tuple [.Name x px, .Name y py] kt pt] (.Tuple [a, b] k2 pt2) pos) (gParO i j ga gb) := by
  obtain ⟨t, p, q⟩ := ha
  obtain ⟨t2, p2, q2⟩ := hb
  refine ⟨_, ps_par hc hN hi hj hij hx hy (pa_cons p (pa_cons p2 pa_nil hsb) hsa) hw hs, fun Y A σ H δ F E hl Rl h => q _ _ _ _ _ _ _ Rl (RunS.bind h fun x δ1 v H1 F1 _ R1 s1 rx h1 => ?_)⟩
  refine q2 _ _ _ _ _ _ _ R1 (RunS.bind h1 fun y δ2 u H2 F2 _ R2 s2 ry h2 => ?_)
  obtain ⟨p, o, rfl, e2, r, fr⟩ := ry
  exact ⟨v, .ref p, rfl, h2 _ _ _ _ ((R2.setD (rx.mono s2)).setO hp e2 r ⟨fr.f, fr.h0, fun k c hk => by
    rcases set_some hk with ⟨_, z, _⟩ | ⟨_, hk⟩
    · cases z
    · exact fr.ne k c hk⟩) (Same.refl _)⟩
/-- found, last = [], e: the list is made first -/
def gParF (i j : Nat) (go : SS → R OC) (gb : SS → R D) : SS → R Fl := fun δ => (go δ).bind fun x δ1 => match gb δ1 with
  | .ok y δ2 => .ok .nx (((mergeD δ1 δ2).set j (some (.d y))).set i (some (.o x)))
  | _ => .bad
theorem protect {Y : Dy} {A : Nat → Addr} {σ : L2.St} {H1 F1 : Hp} {δ1 : SS} {t2 : TE} {Q : V → Hp → Prop} (hl : σ.length = n) (R1 : Rel X.K S Y F1 A H1 σ δ1) {y : D} {δ2 : SS} (eg : gb δ1 = .ok y δ2)
    (q2 : ∀ Y A σ H δ F Q, Rel X.K ⟨S.T, n⟩ Y F A H σ δ → Run X.K X.mg ⟨S.T, n⟩ Y A σ W (ρD X.K) F (gb δ) Q → t2 σ H Q)
    (hq : ∀ u H2 F2, Rel X.K S Y F2 A H2 σ (mergeD δ1 δ2) → Same F1 F2 → Rp X.K F2 y u → (∀ p xs, Fresh S Y F1 A H1 δ1 p → H1 p = some xs → (∀ ps, xs ≠ .tbl ps) → H2 p = some xs ∧ Fresh S Y F2 A H2 (mergeD δ1 δ2) p) → Q u H2) : t2 σ H1 Q := by
  have hd : δ1.length = n := by rw [← R1.len]; exact hl
  have Ri := R1.enter (n := n) (by rw [hd]; exact Nat.le_refl n)
  refine q2 _ _ _ _ _ _ _ Ri ?_
  rw [eg]
  intro u H2 F2 R2 s2 ru
  have RL := R1.leave (vs := []) (by rw [hd]; exact Nat.le_refl n) R2
  refine hq u H2 F2 RL s2 ru fun p xs fr hp nt => ?_
  have hk : H2 p = some xs := R2.kp.keep p xs hp (fun ⟨j, c, g1, g2⟩ => fr.ne j c g1 g2) nt
  refine ⟨hk, ?_, fr.h0, fun j c hj => ?_⟩
  · cases hf : F2 p with
    | none => rfl
    | some o =>
      rcases R2.frs p (by rw [hf]; simp) with z | z
      · exact absurd fr.f z
      · obtain ⟨ps, y⟩ := (show NT H1 p from z) _ hp
        exact absurd y (nt ps)
  · obtain ⟨a, g1, g2⟩ := mergeD_some hj
    rcases g2 with ⟨c0, c', rfl, _, _⟩ | ⟨e, g3⟩
    · exact fr.ne j _ g1
    · exact absurd e.symm (g3 c)
theorem st_parF (i j : Nat) {go : SS → R OC} (hn : X.N.length = n) (hc : X.calm = true) (hN : X.N.Nodup) (ha : EO X S W a go) (hb : EV X ⟨S.T, n⟩ W b gb) (hp : S.np ≤ i) (hij : i ≠ j := by decide) (hi : X.N[i]? = some x := by rfl) (hj : X.N[j]? = some y := by rfl)
    (hx : X.env.scope.names.lookup x = some .local := by rfl) (hy : X.env.scope.names.lookup y = some .local := by rfl)
    (hw : swappedStores [.Tuple [.Name x px, .Name y py] kt pt] (.Tuple [a, b] k2 pt2) X.env = pure (some [x, y]) := by rfl)
    (hs : swapsWithSole [.Tuple [.Name x px, .Name y py] kt pt] (.Tuple [a, b] k2 pt2) pos.line X.env = pure false := by rfl) (hsa : starEach [a, b] X.env = (false, eval a X.env) :: starEach [b] X.env := by rfl) (hsb : starEach [b] X.env = (false, eval b X.env) :: starEach [] X.env := by rfl) :
    ST X S W (.Assign [.Tuple [.Name x px, .Name y py] kt pt] (.Tuple [a, b] k2 pt2) pos) (gParF i j go gb) := by
  obtain ⟨t, p, q⟩ := ha
  obtain ⟨t2, p2, q2⟩ := hb
  refine ⟨_, ps_par hc hN hi hj hij hx hy (pa_cons p (pa_cons p2 pa_nil hsb) hsa) hw hs, fun Y A σ H δ F E hl Rl h => q _ _ _ _ _ _ _ Rl (RunS.bind h fun x δ1 v H1 F1 _ R1 s1 rx h1 => ?_)⟩
  obtain ⟨p, o, rfl, e2, r, fr⟩ := rx
  cases eg : gb δ1 with
  | bad =>
    rw [eg] at h1
    exact h1.elim
  | ex c f x δ2 =>
    rw [eg] at h1
    exact h1.elim
  | ok y δ2 =>
    rw [eg] at h1
    refine protect (hl.trans hn) R1 eg q2 fun u H2 F2 R2 s2 ru hk => ?_
    obtain ⟨k1, k2⟩ := hk p o fr e2 r.ntb
    refine ⟨.ref p, u, rfl, ?_⟩
    have h3 := h1 _ _ _ _ ((R2.setD (i := j) ru).setO hp k1 (r.mono s2) ⟨k2.f, k2.h0, fun k c hk => by
      rcases set_some hk with ⟨_, z, _⟩ | ⟨_, hk⟩
      · cases z
      · exact k2.ne k c hk⟩) s2
    rw [List.set_comm _ _ (Ne.symm hij)] at h3
    exact h3
def gPar3 (i j l : Nat) (ga gb gc : SS → R D) : SS → R Fl := fun δ => (ga δ).bind fun x δ1 => (gb δ1).bind fun y δ2 => (gc δ2).bind fun z δ3 => .ok .nx (((δ3.set i (some (.d x))).set j (some (.d y))).set l (some (.d z)))
def gPar3O (i j l : Nat) (ga gb : SS → R D) (gc : SS → R OC) : SS → R Fl := fun δ => (ga δ).bind fun x δ1 => (gb δ1).bind fun y δ2 => (gc δ2).bind fun z δ3 => .ok .nx (((δ3.set i (some (.d x))).set j (some (.d y))).set l (some (.o z)))
theorem st_par3 (i j l : Nat) {c : Expr} {gc : SS → R D} (hc : X.calm = true) (hN : X.N.Nodup) (ha : EV X S W a ga) (hb : EV X S W b gb) (hcc : EV X S W c gc) (hij : i ≠ j := by decide) (hil : i ≠ l := by decide) (hjl : j ≠ l := by decide) (hi : X.N[i]? = some x := by rfl) (hj : X.N[j]? = some y := by rfl) (hl : X.N[l]? = some z := by rfl)
    (hx : X.env.scope.names.lookup x = some .local := by rfl) (hy : X.env.scope.names.lookup y = some .local := by rfl) (hz : X.env.scope.names.lookup z = some .local := by rfl)
    (hw : swappedStores [.Tuple [.Name x px, .Name y py, .Name z pz] kt pt] (.Tuple [a, b, c] k2 pt2) X.env = pure (some [x, y, z]) := by rfl)
    (hs : swapsWithSole [.Tuple [.Name x px, .Name y py, .Name z pz] kt pt] (.Tuple [a, b, c] k2 pt2) pos.line X.env = pure false := by rfl) (hsa : starEach [a, b, c] X.env = (false, eval a X.env) :: starEach [b, c] X.env := by rfl) (hsb : starEach [b, c] X.env = (false, eval b X.env) :: starEach [c] X.env := by rfl) (hsc : starEach [c] X.env = (false, eval c X.env) :: starEach [] X.env := by rfl) :
    ST X S W (.Assign [.Tuple [.Name x px, .Name y py, .Name z pz] kt pt] (.Tuple [a, b, c] k2 pt2) pos) (gPar3 i j l ga gb gc) := by
  obtain ⟨t, p, q⟩ := ha
  obtain ⟨t2, p2, q2⟩ := hb
  obtain ⟨t3, p3, q3⟩ := hcc
  refine ⟨_, ps_par3 hc hN hi hj hl hij hil hjl hx hy hz (pa_cons p (pa_cons p2 (pa_cons p3 pa_nil hsc) hsb) hsa) hw hs, fun Y A σ H δ F E hl Rl h => q _ _ _ _ _ _ _ Rl (RunS.bind h fun x δ1 v H1 F1 _ R1 s1 rx h1 => ?_)⟩
  refine q2 _ _ _ _ _ _ _ R1 (RunS.bind h1 fun y δ2 u H2 F2 _ R2 s2 ry h2 => ?_)
  refine q3 _ _ _ _ _ _ _ R2 (RunS.bind h2 fun z δ3 w H3 F3 _ R3 s3 rz h3 => ?_)
  exact ⟨v, u, w, rfl, h3 _ _ _ _ (((R3.setD ((rx.mono s2).mono s3)).setD (ry.mono s3)).setD rz) (Same.refl _)⟩
theorem st_par3O (i j l : Nat) {c : Expr} {gc : SS → R OC} (hc : X.calm = true) (hN : X.N.Nodup) (ha : EV X S W a ga) (hb : EV X S W b gb) (hcc : EO X S W c gc) (hp : S.np ≤ l) (hij : i ≠ j := by decide) (hil : i ≠ l := by decide) (hjl : j ≠ l := by decide) (hi : X.N[i]? = some x := by rfl) (hj : X.N[j]? = some y := by rfl) (hl : X.N[l]? = some z := by rfl)
    (hx : X.env.scope.names.lookup x = some .local := by rfl) (hy : X.env.scope.names.lookup y = some .local := by rfl) (hz : X.env.scope.names.lookup z = some .local := by rfl)
    (hw : swappedStores [.Tuple [.Name x px, .Name y py, .Name z pz] kt pt] (.Tuple [a, b, c] k2 pt2) X.env = pure (some [x, y, z]) := by rfl)
    (hs : swapsWithSole [.Tuple [.Name x px, .Name y py, .Name z pz] kt pt] (.Tuple [a, b, c] k2 pt2) pos.line X.env = pure false := by rfl) (hsa : starEach [a, b, c] X.env = (false, eval a X.env) :: starEach [b, c] X.env := by rfl) (hsb : starEach [b, c] X.env = (false, eval b X.env) :: starEach [c] X.env := by rfl) (hsc : starEach [c] X.env = (false, eval c X.env) :: starEach [] X.env := by rfl) :
    ST X S W (.Assign [.Tuple [.Name x px, .Name y py, .Name z pz] kt pt] (.Tuple [a, b, c] k2 pt2) pos) (gPar3O i j l ga gb gc) := by
  obtain ⟨t, p, q⟩ := ha
  obtain ⟨t2, p2, q2⟩ := hb
  obtain ⟨t3, p3, q3⟩ := hcc
  refine ⟨_, ps_par3 hc hN hi hj hl hij hil hjl hx hy hz (pa_cons p (pa_cons p2 (pa_cons p3 pa_nil hsc) hsb) hsa) hw hs, fun Y A σ H δ F E hl Rl h => q _ _ _ _ _ _ _ Rl (RunS.bind h fun x δ1 v H1 F1 _ R1 s1 rx h1 => ?_)⟩
  refine q2 _ _ _ _ _ _ _ R1 (RunS.bind h1 fun y δ2 u H2 F2 _ R2 s2 ry h2 => ?_)
  refine q3 _ _ _ _ _ _ _ R2 (RunS.bind h2 fun z δ3 w H3 F3 _ R3 s3 rz h3 => ?_)
  obtain ⟨p, o, rfl, e2, r, fr⟩ := rz
  exact ⟨v, u, .ref p, rfl, h3 _ _ _ _ (((R3.setD ((rx.mono s2).mono s3)).setD (ry.mono s3)).setO hp e2 r ⟨fr.f, fr.h0, fun k c hk => by
    rcases set_some hk with ⟨_, zz, _⟩ | ⟨_, hk⟩
    · cases zz
    · rcases set_some hk with ⟨_, zz, _⟩ | ⟨_, hk⟩
      · cases zz
      · exact fr.ne k c hk⟩) (Same.refl _)⟩
/-! ### own lists: append, o[i] = e, pop -/
def gApp (i : Nat) (g : SS → R D) : SS → R Fl := fun δ => (g δ).bind fun x δ1 => match δ1[i]? with
  | some (some (.o (.l xs))) => if xs.length < sizeLine then .ok .nx (δ1.set i (some (.o (.l (xs ++ [x]))))) else .bad
  | _ => .bad
def gApO (i : Nat) (g : SS → R D) : SS → R Fl := fun δ => match δ[i]? with
  | some (some (.o (.l _))) => gApp i g δ
  | _ => .bad
theorem tyV_own {Y : Dy} {A : Nat → Addr} {σ : L2.St} {H F : Hp} {δ : SS} {i : Nat} {xs : List D} (Rl : Rel X.K S Y F A H σ δ) (h : δ[i]? = some (some (.o (.l xs)))) : ∃ vs, σ[i]? = some (some (.ref (A i))) ∧ H (A i) = some (.lst vs) ∧ Rps X.K F xs vs ∧ tyV X.K "list" (.ref (A i)) H := by
  obtain ⟨o, h1, h2, h3⟩ := Rl.own_at h
  cases h3 with
  | l r => exact ⟨_, h1, h2, r, .inl ⟨rfl, _, .inl (.inl h2)⟩⟩
/-- xs.append(e), xs an own list -/
theorem st_app (i : Nat) {x : Str} {apos cpos : Pos} (h : EV X S W e ga) (hs : swapsWith (.Call (.Attribute (.Name x p) "append" apos) [e] [] cpos) none pos.line X.env = pure false := by rfl) (hN : X.N[i]? = some x := by rfl) (hv : Vis X.env.scope x := by first | exact Or.inl rfl | exact Or.inr (Or.inl rfl) | exact Or.inr (Or.inr rfl)) (hd : (x == ("__debug__" : Str)) = false := by decide)
    (hcd : (x == ("__classdict__" : Str)) = false := by decide) (hbase : attributeBase (.Name x p) "append" X.env (eval (.Name x p) X.env) = eval (.Name x p) X.env := by rfl)
    (hfew : ((backTo cpos (starEach [e] X.env)).all (fun x => !x.1) && (backToKw cpos (keywordEach [] X.env)).all (fun x => x.1.isSome)
      && decide ([e].length + ([] : List Keyword).length + (if ([] : List Keyword).isEmpty then 0 else 1) < 30)) = true := by rfl)
    (hline : (apos.endLine == cpos.line) = true := by rfl) (hse : starEach [e] X.env = (false, eval e X.env) :: starEach [] X.env := by rfl) :
    ST X S W (.Expr (.Call (.Attribute (.Name x p) "append" apos) [e] [] cpos) pos) (gApO i ga) := by
  obtain ⟨t, p, q⟩ := h
  refine ⟨_, ps_expr (pe_bm PySem.F.plainAttrs_list PySem.F.slot_list_append PySem.F.type_list_append mt_append (pe_var hN hv hd hcd) (pa_cons p pa_nil hse) hbase hfew hline hse rfl) hs, fun Y A σ H δ F E hl Rl h => ?_⟩
  unfold gApO at h
  split at h
  · rename_i xs e
    obtain ⟨vs, h1, h2, h3, h4⟩ := tyV_own Rl e
    refine ⟨_, h1, h4, ?_⟩
    refine q _ _ _ _ _ _ _ Rl (RunS.bind h fun x δ1 v H1 F1 _ R1 s1 rx g1 => ?_)
    split at g1
    · rename_i ys e1
      by_cases hz : ys.length < sizeLine
      · rw [if_pos hz] at g1
        obtain ⟨us, k1, k2, k3, k4⟩ := tyV_own R1 e1
        exact ⟨A i, us, v, rfl, rfl, k2, by rw [k3.length]; exact hz, g1 _ _ _ _ (R1.wr e1 (.l (k3.append (.cons rx .nil)))) (Same.refl _)⟩
      · rw [if_neg hz] at g1
        exact g1.elim
    · exact g1.elim
  · exact h.elim
def isO (i : Nat) (δ : SS) : Bool := match δ[i]? with
  | some (some (.o (.l _))) => true
  | _ => false
def gSetIx (i : Nat) (gv gi : SS → R D) : SS → R Fl := fun δ => (gv δ).bind fun v δ1 => if isO i δ1 = true then (gi δ1).bind fun k δ2 => match δ2[i]?, k with
    | some (some (.o (.l xs))), .int k => (match ixN xs.length k with
      | some j => .ok .nx (δ2.set i (some (.o (.l (xs.set j v)))))
      | none => .bad)
    | _, _ => .bad
  else .bad
/-- xs[k] = e, xs an own list -/
theorem st_setIx (i : Nat) {x : Str} {k : Expr} {gk : SS → R D} {pn : Pos} (h : EV X S W e ga) (hk : EV X S W k gk) (hN : X.N[i]? = some x := by rfl) (hv : Vis X.env.scope x := by first | exact Or.inl rfl | exact Or.inr (Or.inl rfl) | exact Or.inr (Or.inr rfl)) (hd : (x == ("__debug__" : Str)) = false := by decide)
    (hcd : (x == ("__classdict__" : Str)) = false := by decide) (hs : swapsWithSole [.Subscript (.Name x pn) k pos2] e pos.line X.env = pure false := by rfl) (hw : swappedStores [.Subscript (.Name x pn) k pos2] e X.env = pure none := by rfl)
    (h1 : (assignEach [.Subscript (.Name x pn) k pos2] X.env).map (·.2) = [assign (.Subscript (.Name x pn) k pos2) X.env] := by rfl)
    (ha : ∀ v, assign (.Subscript (.Name x pn) k pos2) X.env v = (do
      let ov ← holding [v] (eval (.Name x pn) X.env)
      let iv ← holding [v, ov] (eval k X.env)
      standAt pos2
      holding [v, ov, iv] (setItem ov iv v)
      release [v, ov, iv] []) := by intro _; rfl) : ST X S W (.Assign [.Subscript (.Name x pn) k pos2] e pos) (gSetIx i ga gk) := by
  obtain ⟨t, p, q⟩ := h
  obtain ⟨t2, p2, q2⟩ := hk
  refine ⟨_, ps_asg p (pg_sub (pe_var hN hv hd hcd) p2 set_list ha) hs hw h1, fun Y A σ H δ F E hl Rl h => q _ _ _ _ _ _ _ Rl (RunS.bind h fun x δ1 v H1 F1 _ R1 s1 rx g1 => ?_)⟩
  by_cases hi : isO i δ1 = true
  · rw [if_pos hi] at g1
    obtain ⟨ys, ey⟩ : ∃ ys, δ1[i]? = some (some (.o (.l ys))) := by
      unfold isO at hi
      split at hi
      · rename_i xs e
        exact ⟨xs, e⟩
      · cases hi
    obtain ⟨us, k1, k2, k3, k4⟩ := tyV_own R1 ey
    refine ⟨_, k1, q2 _ _ _ _ _ _ _ R1 (RunS.bind g1 fun y δ2 w H2 F2 _ R2 s2 ry g2 => ?_)⟩
    split at g2
    · rename_i xs k ez e2
      split at g2
      · rename_i j ej
        obtain ⟨us', m1, m2, m3, m4⟩ := tyV_own R2 ez
        cases ry
        have e3 : A i = A i := rfl
        refine ⟨A i, us', k, j, rfl, rfl, m2, by rw [m3.length]; exact ej, g2 _ _ _ _ (R2.wr ez (.l (Rps.set (rx.mono s2) j m3))) (Same.refl _)⟩
      · exact g2.elim
    · exact g2.elim
  · rw [if_neg hi] at g1
    exact g1.elim
/-! ### for, while -/
def forLoop (tg : D → SS → Option SS) (gb : SS → R Fl) : List D → SS → R Fl
  | [], δ => .ok .nx δ
  | d :: ds, δ => match tg d δ with
    | none => .bad
    | some δ1 => match gb δ1 with
      | .ok .nx δ2 => forLoop tg gb ds δ2
      | .ok .ct δ2 => forLoop tg gb ds δ2
      | .ok .bk δ2 => .ok .nx δ2
      | .ok (.rt r) δ2 => .ok (.rt r) δ2
      | .bad => .bad
      | .ex c f x δ2 => .ex c f x δ2
def gFor (src : SS → R (List D)) (tg : D → SS → Option SS) (gb : SS → R Fl) : SS → R Fl := fun δ => (src δ).bind fun items δ1 => forLoop tg gb items δ1
theorem st_for {vs : List Nat} {iter : Expr} {body : List Stmt} {src : SS → R (List D)} {ftg : D → SS → Option SS} {gb : SS → R Fl} (hp : PassesOwn (model X.prog X.w) X.A X.env X.xe) (hc : X.calm = true) (hi : IV X S W tg iter src) (hg : GV X S vs tg ftg) (hb : STs X S W body gb)
    (hs : ∀ x, foldedSetIterable iter X.env x = pure x := by intro _; rfl) : ST X S W (.For tg iter body [] pos) (gFor src ftg gb) := by
  obtain ⟨wi, pi, qi⟩ := hi
  refine ⟨_, ps_for hp hc pi (gv_pg hg) (sts_ps hb) hs, fun Y A σ H δ F E hl Rl h => qi _ _ _ _ _ _ _ Rl (RunS.bind h fun items δ1 J H1 F1 _ R1 s1 ok h1 => ?_)⟩
  refine ⟨fun i m σ H => i ≤ items.length ∧ m = items.length - i ∧ ∃ A δ F, Rel X.K S Y F A H σ δ ∧ Same F1 F ∧ RunS X.K X.mg S Y W F E (forLoop ftg gb (items.drop i) δ), ⟨_, Nat.zero_le _, rfl, A, δ1, F1, R1, Same.refl _, h1⟩, ?_⟩
  rintro i m σ2 H2 ⟨hi, rfl, A2, δ2, F2, R2, s2, h2⟩
  obtain ⟨k1, k2⟩ := ok S Y A2 σ2 δ2 H2 F2 i R2 s2
  by_cases hz : i < items.length
  · right
    rw [List.drop_eq_getElem_cons hz] at h2
    obtain ⟨g1, g2⟩ := k1 _ (List.getElem?_eq_getElem hz)
    refine ⟨g1, fun σ' H' => (i + 1 ≤ items.length) ∧ ∃ A δ F, Rel X.K S Y F A H' σ' δ ∧ Same F1 F ∧ RunS X.K X.mg S Y W F E (forLoop ftg gb (items.drop (i + 1)) δ), fun σ' H' ⟨l1, w⟩ => ⟨items.length - (i + 1), by omega, l1, rfl, w⟩, fun x H' hy => ?_⟩
    obtain ⟨F', R', s', rp⟩ := g2 x H' hy
    unfold forLoop at h2
    cases et : ftg items[i] δ2 with
    | none =>
      rw [et] at h2
      exact h2.elim
    | some δ3 =>
      rw [et] at h2
      refine ⟨Y, A2, δ2, F', _, δ3, R', rp, et, fun σ3 R3 hl3 _ => ⟨Y, A2, δ3, F', R3, ?_⟩⟩
      cases eb : gb δ3 with
      | bad =>
        simp only [eb] at h2
        exact h2.elim
      | ex c f y δ4 =>
        simp only [eb] at h2
        exact RunS.weak h2 s'
      | ok fl δ4 =>
        simp only [eb] at h2
        cases fl with
        | nx => exact fun σ4 H4 F4 A4 R4 s4 => ⟨hz, A4, δ4, F4, R4, (s2.trans s').trans s4, RunS.weak h2 (s'.trans s4)⟩
        | ct => exact fun σ4 H4 F4 A4 R4 s4 => ⟨hz, A4, δ4, F4, R4, (s2.trans s').trans s4, RunS.weak h2 (s'.trans s4)⟩
        | bk => exact fun σ4 H4 F4 A4 R4 s4 => h2 _ _ _ _ R4 (s'.trans s4)
        | rt r => exact fun v σ4 H4 F4 A4 R4 s4 q => h2 v _ _ _ _ R4 (s'.trans s4) q
  · left
    have e : i = items.length := by omega
    rw [List.drop_eq_nil_of_le (by omega)] at h2
    exact ⟨k2 (by omega), h2 _ _ _ _ R2 (Same.refl _)⟩
def whLoop (gt : SS → R Bool) (gb : SS → R Fl) : Nat → SS → R Fl
  | 0, _ => .bad
  | n + 1, δ => match gt δ with
    | .bad => .bad
    | .ex c f x δ1 => .ex c f x δ1
    | .ok false δ1 => .ok .nx δ1
    | .ok true δ1 => match gb δ1 with
      | .ok .nx δ2 => whLoop gt gb n δ2
      | .ok .ct δ2 => whLoop gt gb n δ2
      | .ok .bk δ2 => .ok .nx δ2
      | .ok (.rt r) δ2 => .ok (.rt r) δ2
      | .bad => .bad
      | .ex c f x δ2 => .ex c f x δ2
theorem whLoop_mono {gt : SS → R Bool} {gb : SS → R Fl} : ∀ {n : Nat} {δ : SS} {r : R Fl}, whLoop gt gb n δ = r → r ≠ .bad → ∀ {m : Nat}, n ≤ m → whLoop gt gb m δ = r
  | 0, δ, r, h, hb, m, _ => absurd h.symm hb
  | n + 1, δ, r, h, hb, 0, hm => by omega
  | n + 1, δ, r, h, hb, m + 1, hm => by
    unfold whLoop at h ⊢
    cases et : gt δ with
    | bad =>
      rw [et] at h
      exact absurd h.symm hb
    | ex c f x δ1 =>
      rw [et] at h
      exact h
    | ok k δ1 =>
      rw [et] at h
      cases k with
      | false => exact h
      | true =>
        cases eb : gb δ1 with
        | bad =>
          simp only [eb] at h
          exact absurd h.symm hb
        | ex c f x δ2 =>
          simp only [eb] at h ⊢
          exact h
        | ok fl δ2 =>
          simp only [eb] at h ⊢
          cases fl with
          | nx => exact whLoop_mono (n := n) h hb (by omega)
          | ct => exact whLoop_mono (n := n) h hb (by omega)
          | bk => exact h
          | rt r => exact h
open Classical in
noncomputable def gWhile (gt : SS → R Bool) (gb : SS → R Fl) : SS → R Fl := fun δ => if h : ∃ n, whLoop gt gb n δ ≠ .bad then whLoop gt gb h.choose δ else .bad
theorem gWhile_eq {gt : SS → R Bool} {gb : SS → R Fl} {n : Nat} {δ : SS} {r : R Fl} (h : whLoop gt gb n δ = r) (hb : r ≠ .bad) : gWhile gt gb δ = r := by
  have hx : ∃ n, whLoop gt gb n δ ≠ .bad := ⟨n, by rw [h]; exact hb⟩
  unfold gWhile
  rw [dif_pos hx]
  have h2 := hx.choose_spec
  have h3 := whLoop_mono (n := hx.choose) rfl h2 (Nat.le_max_left hx.choose n)
  have h4 := whLoop_mono h hb (Nat.le_max_right hx.choose n)
  rw [← h3, h4]
theorem gWhile_of {gt : SS → R Bool} {gb : SS → R Fl} {δ : SS} (hb : gWhile gt gb δ ≠ .bad) : ∃ n, whLoop gt gb n δ = gWhile gt gb δ := by
  unfold gWhile at hb ⊢
  split at hb
  · rename_i h
    exact ⟨h.choose, by rw [dif_pos h]⟩
  · exact absurd rfl hb
theorem st_while {c : Expr} {body : List Stmt} {gt : SS → R Bool} {gb : SS → R Fl} (hp : PassesOwn (model X.prog X.w) X.A X.env X.xe) (ht : TV X S W c gt) (hb : STs X S W body gb) : ST X S W (.While c body [] pos) (gWhile gt gb) := by
  obtain ⟨t, p, q⟩ := ht
  refine ⟨_, ps_while hp p (sts_ps hb), fun Y A σ H δ F E hl Rl h => ?_⟩
  have hnb : gWhile gt gb δ ≠ .bad := fun e => by
    rw [e] at h
    exact h
  obtain ⟨n, hn⟩ := gWhile_of hnb
  rw [← hn] at h
  refine ⟨fun m σ H => ∃ A δ F, Rel X.K S Y F A H σ δ ∧ RunS X.K X.mg S Y W F E (whLoop gt gb m δ), ⟨n, A, δ, F, Rl, h⟩, ?_⟩
  rintro m σ1 H1 ⟨A1, δ1, F1, R1, h1⟩
  cases m with
  | zero => exact h1.elim
  | succ m =>
    unfold whLoop at h1
    have h2 : RunS X.K X.mg S Y W F1 E ((gt δ1).bind fun k δ2 => if k = true then (match gb δ2 with
      | .ok .nx δ2 => whLoop gt gb m δ2
      | .ok .ct δ2 => whLoop gt gb m δ2
      | .ok .bk δ2 => .ok .nx δ2
      | .ok (.rt r) δ2 => .ok (.rt r) δ2
      | .bad => .bad
      | .ex c f x δ2 => .ex c f x δ2) else .ok .nx δ2) := by
      cases eg : gt δ1 with
      | bad =>
        rw [eg] at h1
        exact h1
      | ex c f x δ2 =>
        rw [eg] at h1
        exact h1
      | ok k δ2 =>
        rw [eg] at h1
        cases k with
        | true => exact h1
        | false => exact h1
    refine q _ _ _ _ _ _ _ R1 (RunS.bind h2 fun k δ2 k' H2 F2 _ R2 s2 ek h3 => ?_)
    have ek' : k = k' := ek
    subst ek'
    cases k with
    | false => exact iteF (h3 _ _ _ _ R2 (Same.refl _))
    | true =>
      refine iteT ⟨fun σ' H' => ∃ A δ F, Rel X.K S Y F A H' σ' δ ∧ RunS X.K X.mg S Y W F E (whLoop gt gb m δ), fun σ' H' w => ⟨m, Nat.lt_succ_self m, w⟩, Y, A1, δ2, F2, R2, ?_⟩
      have h4 : RunS X.K X.mg S Y W F2 E (match gb δ2 with
        | .ok .nx δ2 => whLoop gt gb m δ2
        | .ok .ct δ2 => whLoop gt gb m δ2
        | .ok .bk δ2 => .ok .nx δ2
        | .ok (.rt r) δ2 => .ok (.rt r) δ2
        | .bad => .bad
        | .ex c f x δ2 => .ex c f x δ2) := h3
      cases eb : gb δ2 with
      | bad =>
        simp only [eb] at h4
        exact h4.elim
      | ex c f y δ4 =>
        simp only [eb] at h4
        exact h4
      | ok fl δ4 =>
        simp only [eb] at h4
        cases fl with
        | nx => exact fun σ4 H4 F4 A4 R4 s4 => ⟨A4, δ4, F4, R4, RunS.weak h4 s4⟩
        | ct => exact fun σ4 H4 F4 A4 R4 s4 => ⟨A4, δ4, F4, R4, RunS.weak h4 s4⟩
        | bk => exact fun σ4 H4 F4 A4 R4 s4 => h4 _ _ _ _ R4 s4
        | rt r => exact fun v σ4 H4 F4 A4 R4 s4 q => h4 v _ _ _ _ R4 s4 q
end
end DL
set_option Elab.async false
set_option linter.all false
set_option maxRecDepth 100000
set_option maxHeartbeats 4000000
namespace DL
open PySem PySem.Spec PyProof.Rows L2
/-! ### a def as a function on data -/
inductive RF where
  | bad
  | ok (r : RV) (as : List (Option OC))
  | ex (c f : Str) (x : D) (as : List (Option OC))
def ocAt (δ : SS) (i : Nat) : Option OC := match δ[i]? with
  | some (some (SV.o c)) => some c
  | _ => none
def aft (np : Nat) (δ : SS) : List (Option OC) := (List.range np).map (ocAt δ)
theorem ocAt_some {δ : SS} {i : Nat} {c : OC} (h : ocAt δ i = some c) : δ[i]? = some (some (SV.o c)) := by
  unfold ocAt at h
  split at h
  · rename_i c' e
    rw [e, Option.some.inj h]
  · cases h
theorem aft_some {np j : Nat} {δ : SS} {c : OC} (h : (aft np δ)[j]? = some (some c)) : j < np ∧ δ[j]? = some (some (SV.o c)) := by
  unfold aft at h
  rw [List.getElem?_map] at h
  by_cases hj : j < np
  · rw [List.getElem?_range hj] at h
    exact ⟨hj, ocAt_some (Option.some.inj h)⟩
  · rw [List.getElem?_eq_none (by simpa using hj)] at h
    cases h
def spD (K : Frg) (mg : Str → Option Value) (T : List (Addr × Str)) (np : Nat) (G : List SV → RF) : Sp := fun vs H Q E => ∃ F A svs, vs.length = np ∧ svs.length = np ∧ Rel K ⟨T, np⟩ (innerY F H A (svs.map some)) F A H (vs.map some) (svs.map some) ∧ match G svs with
  | .bad => False
  | .ok r as' => ∀ v F' A' H' σ' δ', Rel K ⟨T, np⟩ (innerY F H A (svs.map some)) F' A' H' σ' δ' → aft np δ' = as' → Same F F' → RvR K ⟨T, np⟩ (innerY F H A (svs.map some)) A' F' H' δ' r v → Q v H'
  | .ex c f x as' => ∀ cls dd F' A' H' σ' δ', Rel K ⟨T, np⟩ (innerY F H A (svs.map some)) F' A' H' σ' δ' → aft np δ' = as' → Same F F' → ExR K mg F' H' c f x cls dd → E cls dd H'
theorem Rel.pad {K : Frg} {S : Sx} {Y : Dy} {F : Hp} {A : Nat → Addr} {H : Hp} {σ : L2.St} {δ : SS} (R : Rel K S Y F A H σ δ) (n : Nat) : Rel K S Y F A H (σ ++ List.replicate n none) (δ ++ List.replicate n none) := by
  have key : ∀ {i : Nat} {x : SV}, (δ ++ List.replicate n none)[i]? = some (some x) → δ[i]? = some (some x) := fun {i x} h => by
    by_cases hl : i < δ.length
    · rwa [List.getElem?_append_left hl] at h
    · rw [List.getElem?_append_right (by omega)] at h
      obtain ⟨_, z⟩ := List.getElem?_eq_some_iff.mp h
      simp at z
  refine ⟨R.sub, R.ntb, R.grow, R.frs, R.kp, R.tabs, by simp [R.len], fun i x h => ?_, fun i c h => R.own i c (key h), fun i j c c' h1 h2 => R.inj i j c c' (key h1) (key h2), R.pin, fun i c hi h => R.oadr i c hi (key h), R.opar⟩
  obtain ⟨v, h1, h2⟩ := R.slot i x (key h)
  exact ⟨v, by rw [List.getElem?_append_left (List.getElem?_eq_some_iff.mp h1).1]; exact h1, h2⟩
@[simp] def toRF (np : Nat) : R Fl → RF
  | .bad => .bad
  | .ok .nx δ => .ok (.d .none) (aft np δ)
  | .ok (.rt r) δ => .ok r (aft np δ)
  | .ok .bk _ => .bad
  | .ok .ct _ => .bad
  | .ex c f x δ => .ex c f x (aft np δ)
def gDef (np m : Nat) (gb : SS → R Fl) : List SV → RF := fun svs => if svs.length = np then toRF np (gb (svs.map some ++ List.replicate m none)) else .bad
section
variable {P : Program} {w : World} {K : Frg} {mg : Str → Option Value} {base : Heap}
theorem fn_D {x qual : Str} {st : Stmt} {f : Addr} {fd : FuncData} {N ps : List Str} {k m : Nat} {T : List (Addr × Str)} {gb : SS → R Fl} (Fn : Fun K x qual st f fd) (Sc : FnScope N ps (defScope st)) (hm : N.length = ps.length + m)
    (hbody : ∀ (cdv : Value) (A : Around) (outer : List Env) (s : Shared) (H : Hp) (E : XK), Room k (A.deeper (envOfC qual (defScope st) s.heap.objs.size f cdv)) →
      STs (cxOf (L2.CX P w) P w K mg base N qual (defScope st) f cdv A outer s H E) ⟨T, ps.length⟩ (fun cls d _ H => E cls d H) (defBody st) gb) :
    FnOk P w K mg base (L2.CX P w) (k + 1) f fd ps (spD K mg T ps.length (gDef ps.length m gb)) := by
  refine Fn.okX Sc (fun vs H Q E h => h.choose_spec.choose_spec.choose_spec.1) fun cdv A outer s H vs Q E hr hsp => ?_
  obtain ⟨t, p, q⟩ := hbody cdv A outer s H E hr
  refine ⟨t, p, ?_⟩
  obtain ⟨F, A0, svs, h1, h2, R0, h3⟩ := hsp
  have R1 := R0.pad m
  have e : L2.start N vs = vs.map some ++ List.replicate m none := by
    unfold L2.start
    rw [h1, hm, Nat.add_sub_cancel_left]
  rw [e]
  refine q _ A0 _ _ _ F _ ?_ R1 ?_
  · show _ = N.length
    rw [hm]
    simp [h1]
  · unfold gDef at h3
    rw [if_pos h2] at h3
    cases eg : gb (svs.map some ++ List.replicate m none) with
    | bad =>
      rw [eg] at h3
      exact h3
    | ex c f x δ =>
      rw [eg] at h3
      exact fun cls dd σ' H' F' A' R' s' ee => h3 cls dd F' A' H' σ' δ R' rfl s' ee
    | ok fl δ =>
      rw [eg] at h3
      cases fl with
      | nx => exact fun σ' H' F' A' R' s' => h3 _ F' A' H' σ' δ R' rfl s' .non
      | bk => exact h3.elim
      | ct => exact h3.elim
      | rt r => exact fun v σ' H' F' A' R' s' rv => h3 v F' A' H' σ' δ R' rfl s' rv
end
/-! ### arguments of a call -/
inductive Ag where
  | v (x : SV)
  | s (i : Nat)
  | f (c : OC)
def AgR (K : Frg) (S : Sx) (Y : Dy) (A : Nat → Addr) (F H : Hp) (δ : SS) : Ag → V → Prop
  | .v (.d x), v => Rp K F x v
  | .v (.q ns), v => ∃ b, v = .ref b ∧ SqL K F b (ns.map V.int)
  | .v (.o _), _ => False
  | .s i, v => v = .ref (A i)
  | .f c, v => ρO K S Y A F H δ c v
def AgRs (K : Frg) (S : Sx) (Y : Dy) (A : Nat → Addr) (F H : Hp) (δ : SS) : List Ag → List V → Prop
  | [], [] => True
  | a :: as, v :: vs => AgR K S Y A F H δ a v ∧ AgRs K S Y A F H δ as vs
  | _, _ => False
@[simp] def agId : Ag → Option (Option Nat)
  | .v _ => none
  | .s i => some (some i)
  | .f _ => some none
def agOk (ags : List Ag) : Bool := decide (ags.Pairwise fun a b => agId a = none ∨ agId a ≠ agId b)
@[simp] def res1 (δ : SS) : Ag → Option SV
  | .v x => some x
  | .s i => (ocAt δ i).map .o
  | .f c => some (SV.o c)
@[simp] def resL (δ : SS) : List Ag → Option (List SV)
  | [] => some []
  | a :: as => match res1 δ a with
    | none => none
    | some x => match resL δ as with
      | none => none
      | some xs => some (x :: xs)
def resolve (δ : SS) (ags : List Ag) : Option (List SV) := if agOk ags = true then resL δ ags else none
theorem resL_len {δ : SS} : ∀ {ags : List Ag} {svs : List SV}, resL δ ags = some svs → svs.length = ags.length
  | [], _, h => by cases h; rfl
  | a :: as, svs, h => by
    unfold resL at h
    split at h
    · cases h
    · split at h
      · cases h
      · rename_i xs e
        cases h
        rw [List.length_cons, List.length_cons, resL_len e]
theorem resL_get {δ : SS} : ∀ {ags : List Ag} {svs : List SV} {j : Nat} {x : SV}, resL δ ags = some svs → svs[j]? = some x → ∃ a, ags[j]? = some a ∧ res1 δ a = some x
  | [], _, _, _, h, g => by
    cases h
    simp at g
  | a :: as, svs, j, x, h, g => by
    unfold resL at h
    split at h
    · cases h
    · rename_i y ey
      split at h
      · cases h
      · rename_i xs e
        cases h
        cases j with
        | zero =>
          cases g
          exact ⟨a, rfl, ey⟩
        | succ j => exact resL_get (j := j) e g
theorem resL_res {δ : SS} : ∀ {ags : List Ag} {svs : List SV} {j : Nat} {a : Ag}, resL δ ags = some svs → ags[j]? = some a → ∃ x, svs[j]? = some x ∧ res1 δ a = some x
  | [], _, _, _, h, g => by simp at g
  | a :: as, svs, j, x, h, g => by
    unfold resL at h
    split at h
    · cases h
    · rename_i y ey
      split at h
      · cases h
      · rename_i xs e
        cases h
        cases j with
        | zero =>
          cases g
          exact ⟨y, rfl, ey⟩
        | succ j => exact resL_res (j := j) e g
section
variable {K : Frg} {S : Sx} {Y : Dy} {A : Nat → Addr} {F H : Hp} {δ : SS} {σ : L2.St}
theorem AgRs.len : ∀ {ags : List Ag} {vs : List V}, AgRs K S Y A F H δ ags vs → vs.length = ags.length
  | [], [], _ => rfl
  | [], _ :: _, h => h.elim
  | _ :: _, [], h => h.elim
  | a :: as, v :: vs, h => by
    rw [List.length_cons, List.length_cons, AgRs.len h.2]
theorem AgRs.get : ∀ {ags : List Ag} {vs : List V} {j : Nat} {a : Ag}, AgRs K S Y A F H δ ags vs → ags[j]? = some a → ∃ v, vs[j]? = some v ∧ AgR K S Y A F H δ a v
  | [], _, _, _, _, h => by simp at h
  | _ :: _, [], _, _, h, _ => h.elim
  | a :: as, v :: vs, 0, _, h, g => by
    cases g
    exact ⟨v, rfl, h.1⟩
  | a :: as, v :: vs, j + 1, _, h, g => AgRs.get (j := j) h.2 g
def adOf (vs : List V) (j : Nat) : Addr := match vs[j]? with
  | some (.ref p) => p
  | _ => 0
structure Called (K : Frg) (S : Sx) (Y : Dy) (A : Nat → Addr) (F H : Hp) (δ : SS) (ags : List Ag) (svs : List SV) (vs : List V) (B : Nat → Addr) : Prop where
  rel : Rel K ⟨S.T, ags.length⟩ (innerY F H B (svs.map some)) F B H (vs.map some) (svs.map some)
  lv : vs.length = ags.length
  ls : svs.length = ags.length
  slot : ∀ (j i : Nat), ags[j]? = some (Ag.s i) → B j = A i ∧ ∃ c, δ[i]? = some (some (SV.o c))
  frsh : ∀ (j : Nat) (c : OC), ags[j]? = some (Ag.f c) → Fresh S Y F A H δ (B j)
  own : ∀ (j : Nat) (c : OC), (svs.map some)[j]? = some (some (SV.o c)) → (∃ i : Nat, ags[j]? = some (Ag.s i)) ∨ ∃ c : OC, ags[j]? = some (Ag.f c)
  uniq : ∀ (j k i : Nat), ags[j]? = some (Ag.s i) → ags[k]? = some (Ag.s i) → j = k
theorem agOk_inj {ags : List Ag} (h : agOk ags = true) {j k : Nat} {a b : Ag} (ha : ags[j]? = some a) (hb : ags[k]? = some b) (hn : agId a ≠ none) (e : agId a = agId b) : j = k := by
  have h := of_decide_eq_true h
  obtain ⟨hj, ej⟩ := List.getElem?_eq_some_iff.mp ha
  obtain ⟨hk, ek⟩ := List.getElem?_eq_some_iff.mp hb
  have h' := List.pairwise_iff_getElem.mp h
  rcases Nat.lt_trichotomy j k with z | z | z
  · rcases h' j k hj hk z with q | q
    · rw [ej] at q
      exact absurd q hn
    · rw [ej, ek] at q
      exact absurd e q
  · exact z
  · rcases h' k j hk hj z with q | q
    · rw [ek, ← e] at q
      exact absurd q hn
    · rw [ej, ek] at q
      exact absurd e.symm q
theorem called (Rl : Rel K S Y F A H σ δ) {ags : List Ag} {svs : List SV} {vs : List V} (r : AgRs K S Y A F H δ ags vs) (e : resolve δ ags = some svs) : Called K S Y A F H δ ags svs vs (adOf vs) := by
  unfold resolve at e
  split at e
  case isFalse => cases e
  rename_i ok
  have lv := r.len
  have ls := resL_len e
  have hs : ∀ (j i : Nat), ags[j]? = some (Ag.s i) → adOf vs j = A i ∧ ∃ c, δ[i]? = some (some (SV.o c)) := fun j i h => by
    obtain ⟨v, h1, h2⟩ := r.get h
    obtain ⟨x, h3, h4⟩ := resL_res e h
    have h2' : v = .ref (A i) := h2
    refine ⟨by unfold adOf; rw [h1, h2'], ?_⟩
    have h4 : (ocAt δ i).map SV.o = some x := h4
    cases ho : ocAt δ i with
    | none =>
      rw [ho] at h4
      cases h4
    | some c => exact ⟨c, ocAt_some ho⟩
  have hf : ∀ (j : Nat) (c : OC), ags[j]? = some (Ag.f c) → Fresh S Y F A H δ (adOf vs j) ∧ ∃ o, H (adOf vs j) = some o ∧ OR K F c o ∧ vs[j]? = some (.ref (adOf vs j)) := fun j c h => by
    obtain ⟨v, h1, p, o, h2, h3, h4, h5⟩ := r.get h
    have ep : adOf vs j = p := by
      unfold adOf
      rw [h1, h2]
    rw [ep]
    exact ⟨h5, o, h3, h4, by rw [h1, h2]⟩
  have ow : ∀ (j : Nat) (c : OC), (svs.map some)[j]? = some (some (SV.o c)) → (∃ i : Nat, ags[j]? = some (Ag.s i)) ∨ ∃ c : OC, ags[j]? = some (Ag.f c) := fun j c h => by
    have h' : svs[j]? = some (SV.o c) := by simpa using h
    obtain ⟨a, h1, h2⟩ := resL_get e h'
    cases a with
    | v x =>
      cases h2
      obtain ⟨v, _, h4⟩ := r.get h1
      exact h4.elim
    | s i => exact .inl ⟨i, h1⟩
    | f c => exact .inr ⟨c, h1⟩
  have hF : ∀ (j : Nat) (c : OC), (svs.map some)[j]? = some (some (SV.o c)) → F (adOf vs j) = none := fun j c h => by
    rcases ow j c h with ⟨i, z⟩ | ⟨c', z⟩
    · obtain ⟨e1, c1, e2⟩ := hs j i z
      rw [e1]
      exact (Rl.own i c1 e2).1
    · exact (hf j c' z).1.f
  have lt : ∀ (j : Nat) (x : SV), (svs.map some)[j]? = some (some x) → j < ags.length := fun j x h => by
    have := (List.getElem?_eq_some_iff.mp h).1
    rw [List.length_map, ls] at this
    exact this
  refine ⟨⟨Rl.sub, Rl.ntb, Same.refl F, fun b q => .inl q, Kp.refl _ _ _, Rl.tabs, by simp [lv, ls], fun j x h => ?_, fun j c h => ⟨hF j c h, .inl (lt j _ h)⟩, fun j k c c' h1 h2 ee => ?_, fun _ _ => rfl, fun j c _ h => ⟨j, c, h, rfl⟩, fun a ⟨j, c, h, ea⟩ => ?_⟩, lv, ls, hs, fun j c h => (hf j c h).1, ow, fun j k i h1 h2 => agOk_inj ok h1 h2 (by simp [agId]) rfl⟩
  · have h' : svs[j]? = some x := by simpa using h
    obtain ⟨a, h1, h2⟩ := resL_get e h'
    obtain ⟨v, h3, h4⟩ := r.get h1
    refine ⟨v, by simp [h3], ?_⟩
    cases a with
    | v y =>
      cases h2
      cases x with
      | d d => exact h4
      | o c => exact h4.elim
      | q ns => exact h4
    | s i =>
      have h2 : (ocAt δ i).map SV.o = some x := h2
      cases ho : ocAt δ i with
      | none =>
        rw [ho] at h2
        cases h2
      | some c =>
        rw [ho] at h2
        cases h2
        have h4' : v = .ref (A i) := h4
        obtain ⟨o, _, g2, g3⟩ := Rl.own_at (ocAt_some ho)
        have ea := (hs j i h1).1
        exact ⟨by rw [ea]; exact h4', o, by rw [ea]; exact g2, g3⟩
    | f c =>
      cases h2
      obtain ⟨_, o, g1, g2, g3⟩ := hf j c h1
      rw [h3] at g3
      exact ⟨Option.some.inj g3, o, g1, g2⟩
  · rcases ow j c h1 with ⟨i, z⟩ | ⟨d, z⟩
    · obtain ⟨a1, c1, a2⟩ := hs j i z
      rcases ow k c' h2 with ⟨i', z'⟩ | ⟨d', z'⟩
      · obtain ⟨b1, c2, b2⟩ := hs k i' z'
        rw [a1, b1] at ee
        have ei := Rl.inj i i' _ _ a2 b2 ee
        subst ei
        exact agOk_inj ok z z' (by simp [agId]) rfl
      · rw [a1] at ee
        exact absurd ee ((hf k d' z').1.ne i c1 a2)
    · rcases ow k c' h2 with ⟨i', z'⟩ | ⟨d', z'⟩
      · obtain ⟨b1, c2, b2⟩ := hs k i' z'
        rw [b1] at ee
        exact absurd ee.symm ((hf j d z).1.ne i' c2 b2)
      · exact agOk_inj ok z z' (by simp [agId]) rfl
  · show F a = none
    rw [← ea]
    exact hF j c h
/-- what is written back -/
@[simp] def wb (δ : SS) : List Ag → List (Option OC) → SS
  | .s i :: ags, a :: as => (wb δ ags as).set i (a.map .o)
  | _ :: ags, _ :: as => wb δ ags as
  | _, _ => δ
theorem wb_length (δ : SS) : ∀ (ags : List Ag) (as : List (Option OC)), (wb δ ags as).length = δ.length
  | [], _ => rfl
  | _ :: _, [] => by cases ‹Ag› <;> rfl
  | .s i :: ags, a :: as => by
    show ((wb δ ags as).set i (a.map .o)).length = _
    rw [List.length_set, wb_length]
  | .v _ :: ags, _ :: as => wb_length δ ags as
  | .f _ :: ags, _ :: as => wb_length δ ags as
theorem wb_some {δ : SS} {i : Nat} {x : SV} : ∀ {ags : List Ag} {as : List (Option OC)}, as.length = ags.length → (wb δ ags as)[i]? = some (some x) → (∃ (j : Nat) (c : OC), ags[j]? = some (Ag.s i) ∧ as[j]? = some (some c) ∧ x = .o c) ∨ (δ[i]? = some (some x) ∧ ∀ j : Nat, ags[j]? ≠ some (Ag.s i))
  | [], [], _, h => .inr ⟨h, fun j => by simp⟩
  | [], _ :: _, e, _ => by cases e
  | _ :: _, [], e, _ => by cases e
  | .v y :: ags, a :: as, e, h => by
    rcases wb_some (ags := ags) (as := as) (by simpa using e) h with ⟨j, c, h1, h2, h3⟩ | ⟨h1, h2⟩
    · exact .inl ⟨j + 1, c, h1, h2, h3⟩
    · refine .inr ⟨h1, fun j z => ?_⟩
      cases j with
      | zero => cases z
      | succ j => exact h2 j z
  | .f y :: ags, a :: as, e, h => by
    rcases wb_some (ags := ags) (as := as) (by simpa using e) h with ⟨j, c, h1, h2, h3⟩ | ⟨h1, h2⟩
    · exact .inl ⟨j + 1, c, h1, h2, h3⟩
    · refine .inr ⟨h1, fun j z => ?_⟩
      cases j with
      | zero => cases z
      | succ j => exact h2 j z
  | .s k :: ags, a :: as, e, h => by
    have h' : ((wb δ ags as).set k (a.map .o))[i]? = some (some x) := h
    by_cases ek : k = i
    · subst ek
      cases a with
      | none =>
        obtain ⟨z, _⟩ := set_none h'
        exact absurd rfl z
      | some c =>
        rcases set_some (x := SV.o c) h' with ⟨_, z, _⟩ | ⟨z, _⟩
        · exact .inl ⟨0, c, rfl, rfl, z.symm⟩
        · exact absurd rfl z
    · rw [List.getElem?_set_ne ek] at h'
      rcases wb_some (ags := ags) (as := as) (by simpa using e) h' with ⟨j, c, h1, h2, h3⟩ | ⟨h1, h2⟩
      · exact .inl ⟨j + 1, c, h1, h2, h3⟩
      · refine .inr ⟨h1, fun j z => ?_⟩
        cases j with
        | zero =>
          cases z
          exact ek rfl
        | succ j => exact h2 j z
theorem Rel.back (Rl : Rel K S Y F A H σ δ) {ags : List Ag} {svs : List SV} {vs : List V} {B : Nat → Addr} (C : Called K S Y A F H δ ags svs vs B) {F' H' : Hp} {A' : Nat → Addr} {σ' : L2.St} {δ' : SS}
    (Ri : Rel K ⟨S.T, ags.length⟩ (innerY F H B (svs.map some)) F' A' H' σ' δ') : Rel K S Y F' A H' σ (wb δ ags (aft ags.length δ')) := by
  have la : (aft ags.length δ').length = ags.length := by simp [aft]
  have pin : ∀ {j : Nat}, j < ags.length → A' j = B j := fun h => Ri.pin _ h
  have oo : ∀ {i : Nat} {c : OC}, (wb δ ags (aft ags.length δ'))[i]? = some (some (SV.o c)) → ∃ c0, δ[i]? = some (some (SV.o c0)) := fun {i c} h => by
    rcases wb_some la h with ⟨j, c', h1, h2, h3⟩ | ⟨h1, _⟩
    · exact (C.slot j i h1).2
    · exact ⟨c, h1⟩
  have inO : ∀ b, ownSet B (svs.map some) b → (∃ (j i : Nat), ags[j]? = some (Ag.s i) ∧ b = A i ∧ ∃ c, δ[i]? = some (some (SV.o c))) ∨ Fresh S Y F A H δ b := fun b ⟨j, c, h1, h2⟩ => by
    rcases C.own j c h1 with ⟨i, z⟩ | ⟨d, z⟩
    · exact .inl ⟨j, i, z, by rw [← h2]; exact (C.slot j i z).1, (C.slot j i z).2⟩
    · exact .inr (by rw [← h2]; exact C.frsh j d z)
  refine ⟨Ri.sub, Ri.ntb, Rl.grow.trans Ri.grow, fun b q => ?_, ⟨fun b o q nO nt => ?_, fun b q => Rl.kp.dom b (Ri.kp.dom b q)⟩, Ri.tabs, by rw [wb_length]; exact Rl.len, fun i x h => ?_, fun i c h => ?_, fun i j c c' h1 h2 => ?_, Rl.pin, fun i c hi h => ?_, Rl.opar⟩
  · rcases Ri.frs b q with z | z
    · exact Rl.frs b z
    · exact .inr (Rl.kp.dom b z)
  · have q1 := Rl.kp.keep b o q nO nt
    refine Ri.kp.keep b o q1 (fun z => ?_) nt
    rcases inO b z with ⟨j, i, _, e2, c, e3⟩ | fr
    · rcases (Rl.own i c e3).2 with z | z
      · exact nO (by rw [e2]; exact Rl.oadr i c z e3)
      · obtain ⟨ps, y⟩ := z o (by rw [← e2]; exact q)
        exact nt ps y
    · obtain ⟨ps, y⟩ := fr.h0 o q
      exact nt ps y
  · rcases wb_some la h with ⟨j, c', h1, h2, rfl⟩ | ⟨h1, h2⟩
    · obtain ⟨e1, c1, e2⟩ := C.slot j i h1
      obtain ⟨o, g1, _, _⟩ := Rl.own_at e2
      obtain ⟨lj, hj⟩ := aft_some h2
      obtain ⟨o', _, g2, g3⟩ := Ri.own_at hj
      rw [pin lj, e1] at g2
      exact ⟨_, g1, rfl, o', g2, g3⟩
    · obtain ⟨v, g1, g2⟩ := Rl.slot i x h1
      refine ⟨v, g1, g2.mono Ri.grow fun c o e q => ?_⟩
      subst e
      have nO : ¬ ownSet B (svs.map some) (A i) := fun z => by
        rcases inO _ z with ⟨j, k, hj, e2, c', e3⟩ | fr
        · have := Rl.inj i k _ _ h1 e3 e2
          subst this
          exact h2 j hj
        · exact fr.ne i _ h1 rfl
      refine Ri.kp.keep _ _ q nO fun ps z => ?_
      obtain ⟨_, o2, q2, r2⟩ := g2
      rw [q] at q2
      cases q2
      exact r2.ntb ps z
  · rcases wb_some la h with ⟨j, c', h1, h2, e0⟩ | ⟨h1, h2⟩
    · obtain ⟨e1, c1, e2⟩ := C.slot j i h1
      obtain ⟨lj, hj⟩ := aft_some h2
      have g := (Ri.own j c' hj).1
      rw [pin lj, e1] at g
      exact ⟨g, (Rl.own i c1 e2).2⟩
    · refine ⟨?_, (Rl.own i c h1).2⟩
      cases hf : F' (A i) with
      | none => rfl
      | some o =>
        rcases Ri.frs (A i) (by rw [hf]; simp) with z | z
        · exact absurd (Rl.own i c h1).1 z
        · obtain ⟨o2, _, q2, r2⟩ := Rl.own_at h1
          obtain ⟨ps, y⟩ := (show NT H (A i) from z) _ q2
          exact absurd y (r2.ntb ps)
  · obtain ⟨c0, g1⟩ := oo h1
    obtain ⟨c1, g2⟩ := oo h2
    exact Rl.inj i j _ _ g1 g2
  · obtain ⟨c0, g1⟩ := oo h
    exact Rl.oadr i c0 hi g1
theorem back_fresh (Rl : Rel K S Y F A H σ δ) {ags : List Ag} {svs : List SV} {B : Nat → Addr} {F' H' : Hp} {A' : Nat → Addr} {δ' : SS} {as : List (Option OC)} (la : as.length = ags.length) {c : OC} {v : V} (hsl : ∀ (j i : Nat), ags[j]? = some (Ag.s i) → ∃ c, δ[i]? = some (some (SV.o c)))
    (h : ρO K ⟨S.T, ags.length⟩ (innerY F H B (svs.map some)) A' F' H' δ' c v) : ρO K S Y A F' H' (wb δ ags as) c v := by
  obtain ⟨p, o, h1, h2, h3, fr⟩ := h
  have h0 : NT H p := fr.h0
  refine ⟨p, o, h1, h2, h3, fr.f, Rl.kp.dom p h0, fun i c' hi e => ?_⟩
  have : ∃ c0, δ[i]? = some (some (SV.o c0)) := by
    rcases wb_some la hi with ⟨j, c2, k1, _, _⟩ | ⟨k1, _⟩
    · exact hsl j i k1
    · exact ⟨c', k1⟩
  obtain ⟨c0, k⟩ := this
  obtain ⟨o2, _, q2, r2⟩ := Rl.own_at k
  obtain ⟨ps, y⟩ := h0 o2 (by rw [← e]; exact q2)
  exact r2.ntb ps y
end
/-! ### calls -/
def AGV (X : Cx) (S : Sx) (W : WX) (es : List Expr) (g : SS → R (List Ag)) : Prop :=
  ∃ t, PA X es t ∧ ∀ Y A σ H δ F Q, Rel X.K S Y F A H σ δ → Run X.K X.mg S Y A σ W (fun F' H' δ' ags vs => AgRs X.K S Y A F' H' δ' ags vs) F (g δ) Q → t σ H Q
def AGK (X : Cx) (S : Sx) (W : WX) (es : List Keyword) (g : SS → R (List Ag)) : Prop :=
  ∃ t, PK X es t ∧ ∀ Y A σ H δ F Q, Rel X.K S Y F A H σ δ → Run X.K X.mg S Y A σ W (fun F' H' δ' ags vs => AgRs X.K S Y A F' H' δ' ags vs) F (g δ) Q → t σ H Q
def RVJ (X : Cx) (S : Sx) (W : WX) (e : Expr) (g : SS → R RV) : Prop :=
  ∃ t, PE X e t ∧ ∀ Y A σ H δ F Q, Rel X.K S Y F A H σ δ → Run X.K X.mg S Y A σ W (fun F' H' δ' r v => RvR X.K S Y A F' H' δ' r v) F (g δ) Q → t σ H Q
def gAg0 : SS → R (List Ag) := fun δ => .ok [] δ
def gAgD (g : SS → R D) (gs : SS → R (List Ag)) : SS → R (List Ag) := fun δ => (g δ).bind fun x δ1 => (gs δ1).bind fun xs δ2 => .ok (.v (.d x) :: xs) δ2
def gAgS (i : Nat) (gs : SS → R (List Ag)) : SS → R (List Ag) := fun δ => match δ[i]? with
  | some (some (SV.o _)) => (gs δ).bind fun xs δ2 => .ok (.s i :: xs) δ2
  | some (some (SV.q ns)) => (gs δ).bind fun xs δ2 => .ok (.v (.q ns) :: xs) δ2
  | _ => .bad
def gAgF (g : SS → R OC) : SS → R (List Ag) := fun δ => (g δ).bind fun c δ1 => .ok [.f c] δ1
section
variable {X : Cx} {S : Sx} {W : WX} {e : Expr} {es : List Expr} {kws : List Keyword} {pos p : Pos} {ga : SS → R D} {gs : SS → R (List Ag)}
theorem ag_nil : AGV X S W [] gAg0 := ⟨_, pa_nil, fun Y A σ H δ F Q Rl h => h _ _ _ Rl (Same.refl _) trivial⟩
theorem ag_d (h : EV X S W e ga) (h2 : AGV X S W es gs) (hs : starEach (e :: es) X.env = (false, eval e X.env) :: starEach es X.env := by rfl) : AGV X S W (e :: es) (gAgD ga gs) := by
  obtain ⟨t, p, q⟩ := h
  obtain ⟨t2, p2, q2⟩ := h2
  refine ⟨_, pa_cons p p2 hs, fun Y A σ H δ F Q Rl hr => q _ _ _ _ _ _ _ Rl (Run.bind hr fun x δ1 v H1 F1 _ R1 s1 rx h1 => ?_)⟩
  refine q2 _ _ _ _ _ _ _ R1 (Run.bind h1 fun y δ2 u H2 F2 e2 R2 s2 ry h2 => ?_)
  exact h2 _ _ _ R2 (Same.refl _) ⟨rx.mono s2, ry⟩
theorem agS_run {t te : TE} {ta : TA} {i : Nat} (qv : ∀ σ H Q v, σ[i]? = some (some v) → Q v H → te σ H Q) (q2 : ∀ Y A σ H δ F Q, Rel X.K S Y F A H σ δ → Run X.K X.mg S Y A σ W (fun F' H' δ' ags vs => AgRs X.K S Y A F' H' δ' ags vs) F (gs δ) Q → ta σ H Q) :
    ∀ Y A σ H δ F Q, Rel X.K S Y F A H σ δ → Run X.K X.mg S Y A σ W (fun F' H' δ' ags vs => AgRs X.K S Y A F' H' δ' ags vs) F (gAgS i gs δ) Q → tCons te ta σ H Q := fun Y A σ H δ F Q Rl hr => by
  unfold gAgS at hr
  split at hr
  · rename_i c e
    obtain ⟨o, h1, h2, h3⟩ := Rl.own_at e
    refine qv _ _ _ _ h1 (q2 _ _ _ _ _ _ _ Rl (Run.bind hr fun y δ2 u H2 F2 e2 R2 s2 ry h2 => ?_))
    exact h2 _ _ _ R2 (Same.refl _) ⟨rfl, ry⟩
  · rename_i ns e
    obtain ⟨v, h1, b, h2, h3⟩ := Rl.slot i _ e
    refine qv _ _ _ _ h1 (q2 _ _ _ _ _ _ _ Rl (Run.bind hr fun y δ2 u H2 F2 e2 R2 s2 ry h4 => ?_))
    exact h4 _ _ _ R2 (Same.refl _) ⟨⟨b, h2, s2.seq h3⟩, ry⟩
  · exact hr.elim
theorem ag_s (i : Nat) {x : Str} (h2 : AGV X S W es gs) (hN : X.N[i]? = some x := by rfl) (hv : Vis X.env.scope x := by first | exact Or.inl rfl | exact Or.inr (Or.inl rfl) | exact Or.inr (Or.inr rfl)) (hd : (x == ("__debug__" : Str)) = false := by decide)
    (hcd : (x == ("__classdict__" : Str)) = false := by decide) (hs : starEach ((.Name x p) :: es) X.env = (false, eval (.Name x p) X.env) :: starEach es X.env := by rfl) : AGV X S W ((.Name x p) :: es) (gAgS i gs) := by
  obtain ⟨t2, p2, q2⟩ := h2
  exact ⟨_, pa_cons (pe_var hN hv hd hcd) p2 hs, agS_run (i := i) (t := tVar i) (fun σ H Q v h1 hq => ⟨v, h1, hq⟩) q2⟩
theorem ag_f {go : SS → R OC} (h : EO X S W e go) (hs : starEach [e] X.env = (false, eval e X.env) :: starEach [] X.env := by rfl) : AGV X S W [e] (gAgF go) := by
  obtain ⟨t, p, q⟩ := h
  refine ⟨_, pa_cons p pa_nil hs, fun Y A σ H δ F Q Rl hr => q _ _ _ _ _ _ _ Rl (Run.bind hr fun x δ1 v H1 F1 _ R1 s1 rx h1 => ?_)⟩
  exact h1 _ _ _ R1 (Same.refl _) ⟨rx, trivial⟩
theorem agk_nil : AGK X S W [] gAg0 := ⟨_, pk_nil, fun Y A σ H δ F Q Rl h => h _ _ _ Rl (Same.refl _) trivial⟩
theorem agk_d {nm : Option Str} {kpos : Pos} (h : EV X S W e ga) (h2 : AGK X S W kws gs) : AGK X S W (⟨nm, e, kpos⟩ :: kws) (gAgD ga gs) := by
  obtain ⟨t, p, q⟩ := h
  obtain ⟨t2, p2, q2⟩ := h2
  refine ⟨_, pk_cons p p2, fun Y A σ H δ F Q Rl hr => q _ _ _ _ _ _ _ Rl (Run.bind hr fun x δ1 v H1 F1 _ R1 s1 rx h1 => ?_)⟩
  refine q2 _ _ _ _ _ _ _ R1 (Run.bind h1 fun y δ2 u H2 F2 e2 R2 s2 ry h2 => ?_)
  exact h2 _ _ _ R2 (Same.refl _) ⟨rx.mono s2, ry⟩
def gCallA (np : Nat) (G : List SV → RF) (ags : List Ag) (δ : SS) : R RV := if ags.length = np then (match resolve δ ags with
  | none => .bad
  | some svs => match G svs with
    | .bad => .bad
    | .ok r as => .ok r (wb δ ags as)
    | .ex c f x as => .ex c f x (wb δ ags as)) else .bad
def gCallR (np : Nat) (G : List SV → RF) (gs : SS → R (List Ag)) : SS → R RV := fun δ => (gs δ).bind (gCallA np G)
theorem callA_sp {np : Nat} {G : List SV → RF} {ags : List Ag} {δ : SS} {Y : Dy} {A : Nat → Addr} {σ : L2.St} {F H : Hp} {Q : VK} {vs : List V} (Rl : Rel X.K S Y F A H σ δ) (r : AgRs X.K S Y A F H δ ags vs)
    (h : Run X.K X.mg S Y A σ W (fun F' H' δ' r v => RvR X.K S Y A F' H' δ' r v) F (gCallA np G ags δ) Q) : spD X.K X.mg S.T np G vs H Q (WE W σ) := by
  unfold gCallA at h
  split at h
  case isFalse => exact h.elim
  rename_i hn
  split at h
  · exact h.elim
  · rename_i svs es
    have C := called Rl r es
    refine ⟨F, adOf vs, svs, by rw [C.lv]; exact hn, by rw [C.ls]; exact hn, by rw [← hn]; exact C.rel, ?_⟩
    subst hn
    have sl : ∀ (j i : Nat), ags[j]? = some (Ag.s i) → ∃ c, δ[i]? = some (some (SV.o c)) := fun j i z => (C.slot j i z).2
    cases eg : G svs with
    | bad =>
      simp only [eg] at h
      exact h.elim
    | ok rv as =>
      simp only [eg] at h
      intro v F' A' H' σ' δ' Ri ea s' rr
      have Rb := Rl.back C Ri
      rw [ea] at Rb
      refine h v H' F' Rb s' ?_
      cases rv with
      | d x => exact rr
      | o c => exact back_fresh Rl (by rw [← ea]; simp [aft]) sl rr
    | ex c f x as =>
      simp only [eg] at h
      intro cls dd F' A' H' σ' δ' Ri ea s' ee
      have Rb := Rl.back C Ri
      rw [ea] at Rb
      exact h cls dd H' F' Rb s' ee
variable {k np : Nat} {f : Addr} {fd : FuncData} {ps : List Str} {x : Str} {G : List SV → RF}
theorem rv_call (F : FnOk X.prog X.w X.K X.mg X.base (L2.CX X.prog X.w) k f fd ps (spD X.K X.mg S.T np G)) (hr : Room k X.A) (hm : X.mg x = some (.ref f)) (hk : PySem.W.keepIn X.K (.ref f) = true) (hb : Binds X.K fd ps []) (tk : Takes X W)
    (ha : AGV X S W (e :: es) gs) (hg : Gl X x := by rfl) (hdb : (x == ("__debug__" : Str)) = false := by decide) (he : starEach (e :: es) X.env = (false, eval e X.env) :: starEach es X.env := by rfl) (hpl : (backTo pos (starEach es X.env)).any (·.1) = false := by rfl) :
    RVJ X S W (.Call (.Name x p) (e :: es) [] pos) (gCallR np G gs) := by
  obtain ⟨t, pa, q⟩ := ha
  exact ⟨_, pe_callS F hr hg hm hk hb (passAt tk) pa hdb he hpl, fun Y A σ H δ F Q Rl h => q _ _ _ _ _ _ _ Rl (Run.bind h fun ags δ1 vs H1 F1 _ R1 s1 rx h1 => callA_sp R1 rx h1)⟩
def gCall (np : Nat) (G : List SV → RF) (gs : SS → R (List Ag)) : SS → R D := fun δ => (gCallR np G gs δ).bind fun r δ1 => .ok r.toD δ1
def gCallO (np : Nat) (G : List SV → RF) (gs : SS → R (List Ag)) : SS → R OC := fun δ => (gCallR np G gs δ).bind fun r δ1 => match r with
  | .o c => .ok c δ1
  | .d _ => .bad
theorem ev_rv (h : RVJ X S W e (gCallR np G gs)) : EV X S W e (gCall np G gs) := by
  obtain ⟨t, p, q⟩ := h
  refine ⟨t, p, fun Y A σ H δ F Q Rl h => q _ _ _ _ _ _ _ Rl (Run.bind h fun r δ1 v H1 F1 _ R1 s1 rx h1 => ?_)⟩
  cases r with
  | d x => exact h1 _ _ _ R1 (Same.refl _) rx
  | o c =>
    obtain ⟨p, o, e1, e2, r, fr⟩ := rx
    subst e1
    exact h1 _ _ _ (R1.freeze e2 fr r.ntb) (same_upd fr.f) ((r.mono (same_upd fr.f)).rp upd_same)
theorem eo_rv (h : RVJ X S W e (gCallR np G gs)) : EO X S W e (gCallO np G gs) := by
  obtain ⟨t, p, q⟩ := h
  refine ⟨t, p, fun Y A σ H δ F Q Rl h => q _ _ _ _ _ _ _ Rl (Run.bind h fun r δ1 v H1 F1 _ R1 s1 rx h1 => ?_)⟩
  cases r with
  | d x => exact h1.elim
  | o c => exact h1 _ _ _ R1 (Same.refl _) rx
/-! keywords: π puts what is given in the parameters' order -/
@[simp] def pick {α : Type} (π : List Nat) (xs : List α) : List α := π.filterMap (xs[·]?)
theorem AgRs.append {Y : Dy} {A : Nat → Addr} {F H : Hp} {δ : SS} : ∀ {as bs : List Ag} {vs us : List V}, AgRs X.K S Y A F H δ as vs → AgRs X.K S Y A F H δ bs us → AgRs X.K S Y A F H δ (as ++ bs) (vs ++ us)
  | [], _, [], _, _, h => h
  | [], _, _ :: _, _, h, _ => h.elim
  | _ :: _, _, [], _, h, _ => h.elim
  | a :: as, bs, v :: vs, us, h, h2 => ⟨h.1, AgRs.append h.2 h2⟩
theorem AgRs.pick {Y : Dy} {A : Nat → Addr} {F H : Hp} {δ : SS} {as : List Ag} {vs : List V} (h : AgRs X.K S Y A F H δ as vs) : ∀ π : List Nat, AgRs X.K S Y A F H δ (DL.pick π as) (DL.pick π vs)
  | [] => trivial
  | i :: π => by
    have ih := AgRs.pick h π
    unfold DL.pick at ih ⊢
    cases ea : as[i]? with
    | none =>
      have ev : vs[i]? = none := by
        rw [List.getElem?_eq_none_iff] at ea ⊢
        rw [h.len]
        exact ea
      rw [List.filterMap_cons_none ea, List.filterMap_cons_none ev]
      exact ih
    | some a =>
      obtain ⟨v, ev, r⟩ := h.get ea
      rw [List.filterMap_cons_some ea, List.filterMap_cons_some ev]
      exact ⟨r, ih⟩
theorem vals_append {as bs : List V} {us ws : List Value} (h : Vals as us) (h2 : Vals bs ws) : Vals (as ++ bs) (us ++ ws) := by
  induction h with
  | nil => exact h2
  | cons a b ih => exact .cons a ih
theorem vals_get {as : List V} {us : List Value} (h : Vals as us) : ∀ {i : Nat} {x : V}, as[i]? = some x → ∃ u, us[i]? = some u ∧ RelV x u := by
  induction h with
  | nil => intro i x e; simp at e
  | cons a b ih =>
    intro i x e
    cases i with
    | zero =>
      cases e
      exact ⟨_, rfl, a⟩
    | succ i => exact ih (i := i) e
theorem vals_pick {as : List V} {us : List Value} (h : Vals as us) : ∀ π : List Nat, Vals (pick π as) (pick π us)
  | [] => .nil
  | i :: π => by
    have ih := vals_pick h π
    unfold pick at ih ⊢
    cases ea : as[i]? with
    | none =>
      have ev : us[i]? = none := by
        rw [List.getElem?_eq_none_iff] at ea ⊢
        rw [← h.length]
        exact ea
      rw [List.filterMap_cons_none ea, List.filterMap_cons_none ev]
      exact ih
    | some a =>
      obtain ⟨v, ev, r⟩ := vals_get h ea
      rw [List.filterMap_cons_some ea, List.filterMap_cons_some ev]
      exact .cons r ih
def KB (K : Frg) (fd : FuncData) (ps ks : List Str) (π : List Nat) (m : Nat) : Prop := ∀ (s : Shared) (us ws : List Value), K.In s.heap → us.length = m → ws.length = ks.length → BindsTo s fd ⟨us, ks.zip ws⟩ (ps.zip (pick π (us ++ ws)))
def gCallK (np m mk : Nat) (π : List Nat) (G : List SV → RF) (gs gk : SS → R (List Ag)) : SS → R RV := fun δ => (gs δ).bind fun as δ1 => (gk δ1).bind fun bs δ2 => if as.length = m ∧ bs.length = mk then gCallA np G (pick π (as ++ bs)) δ2 else .bad
def noF (ags : List Ag) : Bool := ags.all fun a => match a with | .f _ => false | _ => true
theorem AgRs.later {Y : Dy} {A : Nat → Addr} {F H F' H' : Hp} {δ δ' : SS} (s : Same F F') : ∀ {as : List Ag} {vs : List V}, noF as = true → AgRs X.K S Y A F H δ as vs → AgRs X.K S Y A F' H' δ' as vs
  | [], [], _, h => h
  | [], _ :: _, _, h => h.elim
  | _ :: _, [], _, h => h.elim
  | .v (.d x) :: as, v :: vs, n, h => ⟨Rp.mono s h.1, AgRs.later s (by simpa [noF] using n) h.2⟩
  | .v (.q x) :: as, v :: vs, n, h => ⟨by obtain ⟨b, h1, h2⟩ := h.1; exact ⟨b, h1, s.seq h2⟩, AgRs.later s (by simpa [noF] using n) h.2⟩
  | .v (.o x) :: as, v :: vs, n, h => h.1.elim
  | .s i :: as, v :: vs, n, h => ⟨h.1, AgRs.later s (by simpa [noF] using n) h.2⟩
  | .f c :: as, v :: vs, n, h => by simp [noF] at n
def gCallKN (np m mk : Nat) (π : List Nat) (G : List SV → RF) (gs gk : SS → R (List Ag)) : SS → R RV := fun δ => (gs δ).bind fun as δ1 => if noF as = true then (gk δ1).bind (fun bs δ2 => if as.length = m ∧ bs.length = mk then gCallA np G (pick π (as ++ bs)) δ2 else .bad) else .bad
theorem run_fnK {pins : List (Addr × Obj)} {σ : L2.St} {H : Hp} {s : Shared} {Q : VK} {us ws : List Value} {vs zs : List V} {ks : List Str} {m : Nat} {π : List Nat} {sp : Sp} (F : FnOk X.prog X.w X.K X.mg X.base (L2.CX X.prog X.w) k f fd ps sp) (hr : Room k X.A) (hb : KB X.K fd ps ks π m) (tk : Takes X W)
    (I : Inv X pins σ H s) (r : Vals vs us) (rz : Vals zs ws) (l1 : vs.length = m) (l2 : zs.length = ks.length) (h : sp (pick π (vs ++ zs)) H Q (WE W σ)) : wpAny (model X.prog X.w) X.A (call (.ref f) us (ks.zip ws)) (L2.EP X pins σ Q) X.xe s := by
  have r2 := vals_pick (vals_append r rz) π
  refine wpAny_call (codeAny_mono (F.run X.A X.stack s H ⟨us, ks.zip ws⟩ _ _ Q (WE W σ) hr I.env0 (hb s us ws I.kIn (by rw [← r.length]; exact l1) (by rw [← rz.length]; exact l2)) r2 h) fun r s' hq => ?_)
  cases r with
  | error e => exact passAt tk σ pins H s e s' I hq
  | ok fl =>
    cases fl with
    | ret u => exact I.after hq
    | next => exact False.elim hq
    | brk => exact False.elim hq
    | cont => exact False.elim hq
def tCallKS (sp : Sp) (π : List Nat) (m mk : Nat) (W : WX) (t tk : TA) : TE := fun σ H Q => t σ H fun vs H1 => tk σ H1 fun zs H2 => vs.length = m ∧ zs.length = mk ∧ sp (pick π (vs ++ zs)) H2 Q (WE W σ)
theorem pe_callKS {ks : List Str} {m : Nat} {π : List Nat} {sp : Sp} {t tk : TA} (F : FnOk X.prog X.w X.K X.mg X.base (L2.CX X.prog X.w) k f fd ps sp) (hr : Room k X.A) (hg : Gl X x) (hm : X.mg x = some (.ref f)) (hk : PySem.W.keepIn X.K (.ref f) = true) (hb : KB X.K fd ps ks π m) (hx : Takes X W)
    (ha : PA X (e :: es) t) (hkw : PK X kws tk) (hall : (backToKw pos (keywordEach kws X.env)).all (·.1.isSome) = true := by rfl) (hks : (backToKw pos (keywordEach kws X.env)).filterMap (·.1) = ks := by rfl)
    (hdb : (x == ("__debug__" : Str)) = false := by decide) (he : starEach (e :: es) X.env = (false, eval e X.env) :: starEach es X.env := by rfl)
    (hpl : ((backTo pos (starEach (e :: es) X.env)).any (·.1) || (backToKw pos (keywordEach kws X.env)).any (·.1.isNone)) = false := by rfl) :
    PE X (.Call (.Name x p) (e :: es) kws pos) (tCallKS sp π m ks.length W t tk) := by
  refine ⟨fun pins s σ H Q I h => ?_⟩
  refine wpAny_Call_Name_kw (ld_glob I hg hm ?_ hdb)
  refine PySem.W.callWith_KW (h₀ := X.base) I.ok.mod.kin hk hall (thn (ha.run pos pins s σ H _ I h) fun us s1 ⟨vs, H1, I1, r, q⟩ => ?_) hpl he
  refine thn (hkw.run pos pins s1 σ H1 _ I1 q) fun ws s2 ⟨zs, H2, I2, rz, l1, l2, q2⟩ => ⟨I2.kIn, ?_⟩
  rw [hks]
  exact run_fnK F hr hb hx I2 r rz l1 l2 q2
theorem pe_callKS0 {ks : List Str} {π : List Nat} {sp : Sp} {tk : TA} (F : FnOk X.prog X.w X.K X.mg X.base (L2.CX X.prog X.w) k f fd ps sp) (hr : Room k X.A) (hg : Gl X x) (hm : X.mg x = some (.ref f)) (hk : PySem.W.keepIn X.K (.ref f) = true) (hb : KB X.K fd ps ks π 0) (hx : Takes X W)
    (hkw : PK X kws tk) (hall : (backToKw pos (keywordEach kws X.env)).all (·.1.isSome) = true := by rfl) (hks : (backToKw pos (keywordEach kws X.env)).filterMap (·.1) = ks := by rfl)
    (hdb : (x == ("__debug__" : Str)) = false := by decide) (hpl : ((backTo pos (starEach [] X.env)).any (·.1) || (backToKw pos (keywordEach kws X.env)).any (·.1.isNone)) = false := by rfl) :
    PE X (.Call (.Name x p) [] kws pos) (tCallKS sp π 0 ks.length W tNil tk) := by
  refine ⟨fun pins s σ H Q I h => ?_⟩
  refine wpAny_Call_Name_kw (ld_glob I hg hm ?_ hdb)
  refine PySem.W.callWith_KW0 (h₀ := X.base) I.ok.mod.kin hk hall (thn (hkw.run pos pins s σ H _ I h) fun ws s2 ⟨zs, H2, I2, rz, l1, l2, q2⟩ => ⟨I2.kIn, ?_⟩) hpl
  rw [hks]
  exact run_fnK (us := []) (vs := []) F hr hb hx I2 .nil rz l1 l2 q2
theorem callK_run {t tk : TA} {m mk : Nat} {π : List Nat} {gk : SS → R (List Ag)} (qa : ∀ Y A σ H δ F Q, Rel X.K S Y F A H σ δ → Run X.K X.mg S Y A σ W (fun F' H' δ' ags vs => AgRs X.K S Y A F' H' δ' ags vs) F (gs δ) Q → t σ H Q)
    (qk : ∀ Y A σ H δ F Q, Rel X.K S Y F A H σ δ → Run X.K X.mg S Y A σ W (fun F' H' δ' ags vs => AgRs X.K S Y A F' H' δ' ags vs) F (gk δ) Q → tk σ H Q) :
    ∀ Y A σ H δ F Q, Rel X.K S Y F A H σ δ → Run X.K X.mg S Y A σ W (fun F' H' δ' r v => RvR X.K S Y A F' H' δ' r v) F (gCallKN np m mk π G gs gk δ) Q → tCallKS (spD X.K X.mg S.T np G) π m mk W t tk σ H Q := fun Y A σ H δ F Q Rl h => by
  refine qa _ _ _ _ _ _ _ Rl (Run.bind h fun as δ1 vs H1 F1 _ R1 s1 rx h1 => ?_)
  by_cases hn : noF as = true
  · rw [if_pos hn] at h1
    refine qk _ _ _ _ _ _ _ R1 (Run.bind h1 fun bs δ2 us H2 F2 _ R2 s2 ry h2 => ?_)
    by_cases hl : as.length = m ∧ bs.length = mk
    · rw [if_pos hl] at h2
      exact ⟨by rw [rx.len]; exact hl.1, by rw [ry.len]; exact hl.2, callA_sp R2 (((rx.later s2 hn).append ry).pick π) h2⟩
    · rw [if_neg hl] at h2
      exact h2.elim
  · rw [if_neg hn] at h1
    exact h1.elim
theorem rv_callK {ks : List Str} {m mk : Nat} {π : List Nat} {gk : SS → R (List Ag)} (F : FnOk X.prog X.w X.K X.mg X.base (L2.CX X.prog X.w) k f fd ps (spD X.K X.mg S.T np G)) (hr : Room k X.A) (hm : X.mg x = some (.ref f)) (hk : PySem.W.keepIn X.K (.ref f) = true) (hb : KB X.K fd ps ks π m) (tk : Takes X W)
    (ha : AGV X S W (e :: es) gs) (hkw : AGK X S W kws gk) (hg : Gl X x := by rfl) (hall : (backToKw pos (keywordEach kws X.env)).all (·.1.isSome) = true := by rfl) (hks : (backToKw pos (keywordEach kws X.env)).filterMap (·.1) = ks := by rfl)
    (hdb : (x == ("__debug__" : Str)) = false := by decide) (he : starEach (e :: es) X.env = (false, eval e X.env) :: starEach es X.env := by rfl)
    (hpl : ((backTo pos (starEach (e :: es) X.env)).any (·.1) || (backToKw pos (keywordEach kws X.env)).any (·.1.isNone)) = false := by rfl) (hmk : ks.length = mk := by rfl) : RVJ X S W (.Call (.Name x p) (e :: es) kws pos) (gCallKN np m mk π G gs gk) := by
  obtain ⟨t, pa, q⟩ := ha
  obtain ⟨t2, pk, q2⟩ := hkw
  subst hmk
  exact ⟨_, pe_callKS F hr hg hm hk hb tk pa pk hall hks hdb he hpl, callK_run q q2⟩
theorem rv_callK0 {ks : List Str} {mk : Nat} {π : List Nat} {gk : SS → R (List Ag)} (F : FnOk X.prog X.w X.K X.mg X.base (L2.CX X.prog X.w) k f fd ps (spD X.K X.mg S.T np G)) (hr : Room k X.A) (hm : X.mg x = some (.ref f)) (hk : PySem.W.keepIn X.K (.ref f) = true) (hb : KB X.K fd ps ks π 0) (tk : Takes X W)
    (hkw : AGK X S W kws gk) (hg : Gl X x := by rfl) (hall : (backToKw pos (keywordEach kws X.env)).all (·.1.isSome) = true := by rfl) (hks : (backToKw pos (keywordEach kws X.env)).filterMap (·.1) = ks := by rfl)
    (hdb : (x == ("__debug__" : Str)) = false := by decide) (hpl : ((backTo pos (starEach [] X.env)).any (·.1) || (backToKw pos (keywordEach kws X.env)).any (·.1.isNone)) = false := by rfl) (hmk : ks.length = mk := by rfl) : RVJ X S W (.Call (.Name x p) [] kws pos) (gCallKN np 0 mk π G gAg0 gk) := by
  obtain ⟨t2, pk, q2⟩ := hkw
  subst hmk
  exact ⟨_, pe_callKS0 F hr hg hm hk hb tk pk hall hks hdb hpl, callK_run (fun Y A σ H δ F Q Rl h => h _ _ _ Rl (Same.refl _) trivial) q2⟩
def gOfR (g : SS → R RV) : SS → R D := fun δ => (g δ).bind fun r δ1 => .ok r.toD δ1
def gOfRO (g : SS → R RV) : SS → R OC := fun δ => (g δ).bind fun r δ1 => match r with
  | .o c => .ok c δ1
  | .d _ => .bad
theorem ev_rvj {g : SS → R RV} (h : RVJ X S W e g) : EV X S W e (gOfR g) := by
  obtain ⟨t, p, q⟩ := h
  refine ⟨t, p, fun Y A σ H δ F Q Rl h => q _ _ _ _ _ _ _ Rl (Run.bind h fun r δ1 v H1 F1 _ R1 s1 rx h1 => ?_)⟩
  cases r with
  | d x => exact h1 _ _ _ R1 (Same.refl _) rx
  | o c =>
    obtain ⟨p, o, e1, e2, r, fr⟩ := rx
    subst e1
    exact h1 _ _ _ (R1.freeze e2 fr r.ntb) (same_upd fr.f) ((r.mono (same_upd fr.f)).rp upd_same)
theorem eo_rvj {g : SS → R RV} (h : RVJ X S W e g) : EO X S W e (gOfRO g) := by
  obtain ⟨t, p, q⟩ := h
  refine ⟨t, p, fun Y A σ H δ F Q Rl h => q _ _ _ _ _ _ _ Rl (Run.bind h fun r δ1 v H1 F1 _ R1 s1 rx h1 => ?_)⟩
  cases r with
  | d x => exact h1.elim
  | o c => exact h1 _ _ _ R1 (Same.refl _) rx
end
end DL
set_option Elab.async false
set_option linter.all false
set_option maxRecDepth 100000
set_option maxHeartbeats 4000000
namespace DL
open PySem PySem.Spec PyProof.Rows L2
/-! ### an own error whose __init__ says super().__init__(x); sf.f = x -/
def spI (C : Addr) (f : Str) : Sp := fun vs H Q E => ∃ e v, vs = [.ref e, v] ∧ H e = some (exo e C none) ∧ ∀ dx, H dx = none → dx ≠ e → Q .non (upd (upd H dx (exd dx [(f, v)])) e (exo e C (some dx)))
structure InitC (P : Program) (K : Frg) (mg : Str → Option Value) (C fI : Addr) (f sf x : Str) (fd : FuncData) : Prop where
  T : OexC K C
  lk : ∃ (name qual : Str) (params : Arguments) (scope : Scope) (p0 p1 apos pn cpos pe' ps p' px pa : Pos) (dV kV doc pm : Value) (an : Option Addr) (ct : Value) (cda cc : Addr) (oc ccl cl tf' : Value) (od cdd cld : Option Addr) (osl ccs csl : Array (Option Value)) (vs : Array Value) (file : Str) (tf : Tok) (ar : Arg),
    fd = PySem.W.ksFn name qual params [.Expr (.Call (.Attribute (.Call (.Name "super" p0) [] [] p1) "__init__" apos) [.Name x pn] [] cpos) pe', .Assign [.Attribute (.Name sf ps) f p'] (.Name x px) pa] scope dV kV doc pm an (.ref cda) ct cc ∧
    K.lookup fI = some ⟨oc, od, .func fd, osl⟩ ∧ K.lookup cda = some ⟨ccl, cdd, .fields vs, ccs⟩ ∧ vs[2]? = some (.str file tf) ∧ ((P.main.file : Str) == file) = true ∧ PySem.W.codeIn K (.ref cda) qual = true ∧
    K.lookup cc = some ⟨cl, cld, .cell (some (.ref C)), csl⟩ ∧ (params.posonlyargs ++ params.args).head? = some ar ∧ ar.arg = sf ∧
    scope.kind = .function ∧ scope.isCoroutine = false ∧ scope.isGenerator = false ∧ (∀ y ∈ scope.names, y.2 ≠ .cell) ∧ scope.names.lookup ("super" : Str) = some .globalImplicit ∧ scope.names.lookup ("__class__" : Str) = some .free ∧
    scope.names.lookup sf = some .local ∧ scope.names.lookup x = some .local ∧
    ∀ L, interactive (PySem.W.ksEnv qual scope L fI (.ref cda) cc) = false ∧ swapsWith (.Call (.Attribute (.Call (.Name "super" p0) [] [] p1) "__init__" apos) [.Name x pn] [] cpos) none pe'.line (PySem.W.ksEnv qual scope L fI (.ref cda) cc) = pure false ∧
      swapsWith (.Name x px) (some (.Attribute (.Name sf ps) f p')) pa.line (PySem.W.ksEnv qual scope L fI (.ref cda) cc) = pure false ∧ ∃ pl : Sem Bool, eval (.Call (.Attribute (.Call (.Name "super" p0) [] [] p1) "__init__" apos) [.Name x pn] [] cpos) (PySem.W.ksEnv qual scope L fI (.ref cda) cc) = (do
        let ov ← attributeBase (.Call (.Name "super" p0) [] [] p1) "__init__" (PySem.W.ksEnv qual scope L fI (.ref cda) cc) (eval (.Call (.Name "super" p0) [] [] p1) (PySem.W.ksEnv qual scope L fI (.ref cda) cc))
        standAt apos.atName
        let (f, first) ← holding [ov] (getMethod ov "__init__" pl)
        callWith cpos f first (backTo cpos (starEach [.Name x pn] (PySem.W.ksEnv qual scope L fI (.ref cda) cc))) [])
  ne : sf ≠ x
  db1 : (sf == ("__debug__" : Str)) = false
  db2 : (x == ("__debug__" : Str)) = false
  top : (P.main.scope.names.lookup ("super" : Str)).isSome = false
  sup : mg "super" = none
  sub : PySem.W.mroIn K C (.ref C) = some true
  si : PySem.W.ks_superIn K C C "__init__" = some (some (.builtin "ValueError.__init__"))
  ve : PySem.W.subIn K (.ref C) (.type "ValueError") = some true
  opq : PySem.W.nsIn K cStatics "thirdparty.any" = some none
  no : PySem.W.findIn K (.ref C) f = some none
  bind : L2.Binds K fd [sf, x] []
theorem init_fn {P : Program} {w : World} {K : Frg} {mg : Str → Option Value} {base : Heap} {C fI : Addr} {f sf x : Str} {fd : FuncData} (Ic : InitC P K mg C fI f sf x fd) : FnOk P w K mg base (L2.CX P w) 1 fI fd [sf, x] (spI C f) := by
  refine ⟨fun vs H Q E h => ?_, fun A outer s H args us vs Q E hr e0 hb r hsp => ?_⟩
  · obtain ⟨e, v, rfl, _⟩ := h
    rfl
  obtain ⟨name, qual, params, scope, p0, p1, apos, pn, cpos, pe', ps, p', px, pa, dV, kV, doc, pm, an, ct, cda, cc, oc, ccl, cl, tf', od, cdd, cld, osl, ccs, csl, vs', file, tf, ar, rfl, lk, hcode, hvs, hfile, hcd, hcell, hp, har, hk, hco, hgen, hnc, hks, hkc, hka, hkx, hsyn⟩ := Ic.lk
  subst har
  obtain ⟨e, v, rfl, he, hq⟩ := hsp
  obtain ⟨ue, us, rfl, re, r⟩ : ∃ ue us', us = ue :: us' ∧ RelV (.ref e) ue ∧ Vals [v] us' := by
    cases r with
    | cons a b => exact ⟨_, _, rfl, a, b⟩
  obtain ⟨u, rfl, ru⟩ : ∃ u, us = [u] ∧ RelV v u := by
    cases r with
    | cons a b => cases b; exact ⟨_, rfl, a⟩
  obtain rfl : ue = Value.ref e := re
  have KX : K.In s.heap := e0.mod.kin.keeps fun b o e => (e0.bs b o e).1
  have lim : s.heap.NoLimit := e0.mod.nolimit.keeps fun b o e => (e0.bs b o e).1
  obtain ⟨nm, q, N, bs, bm, sn, sub, ab, col, dd, k0, k1, k2, k3, k5, hC, hbm⟩ := Ic.T.cls
  have hcl : PySem.W.clsIn K C = some { name := nm, bases := bs, mro := .ref C :: bm, ns := N, qualname := q, hasDict := true, slotNames := sn, subclasses := sub, abstract := ab, collection := col, hasDel := false } := by unfold PySem.W.clsIn; rw [hC] <;> rfl
  refine PySem.ks_codeAny_call_defAt hr.depth (KX _ _ lk) rfl lim (PySem.W.codeRec_of KX hcd) rfl hb hnc (fun y hy => ?_) (fun h₀ hns kp => ?_) hco hgen hk
  · rcases y with ⟨n, z⟩
    have := (List.of_mem_zip hy).1
    rcases List.mem_cons.mp this with rfl | this
    · exact hka
    · rcases List.mem_cons.mp this with rfl | this
      · exact hkx
      · cases this
  obtain ⟨t1, hoe⟩ := exo_at e0.hok he
  have X0 : K.In h₀ := KX.keeps kp
  have X0 : K.In h₀ := KX.keeps kp
  have hself : (fun y => List.lookup y ([ar.arg, x].zip [Value.ref e, u]).reverse) ar.arg = some (.ref e) := by
    show List.lookup ar.arg [(x, u), (ar.arg, Value.ref e)] = _
    have e1 : (ar.arg == x) = false := by simpa using Ic.ne
    simp only [List.lookup, e1, beq_self_eq_true]
  have hx : (fun y => List.lookup y ([ar.arg, x].zip [Value.ref e, u]).reverse) x = some u := by
    show List.lookup x [(x, u), (ar.arg, Value.ref e)] = _
    simp [List.lookup]
  have hbk : ∀ b o, base.get? b = some o → h₀.get? b = some o := fun b o z => kp b o (e0.bs b o z).1
  obtain ⟨mb, hb1, hb2⟩ := e0.mod.blt
  obtain ⟨hp0, g, d, tk, os⟩ := s
  obtain ⟨hint, hsw1, hsw2, pl, hev⟩ := hsyn hp0.objs.size
  refine PySem.ks_wpAt_execs_cons (PySem.ks_wpAt_Expr_any (PySem.ks_wpAt_MethodCall (pl := pl) ?_ hev) hint hsw1)
  refine PySem.ks_wpAt_super_base (env := PySem.W.ksEnv qual scope hp0.objs.size fI (.ref cda) cc) hks hkc rfl rfl (X0 _ _ lk) rfl hp rfl (X0 _ _ hcode) rfl hvs hfile Ic.top ?_
  refine PySem.W.ks_loadName_global hk hks (Calls.loadGlobal_builtin (env := PySem.W.ksEnv qual scope hp0.objs.size fI (.ref cda) cc) (e0.mod.glob.keeps hbk) Ic.sup (hb1.keeps hbk) (v := .type "super") ((hb2 "super" (by decide)).trans (by decide +kernel)) ⟨rfl, ?_⟩)
  refine wpAny_loadName_free hk hkc rfl ⟨_, X0 _ _ hcell, rfl⟩ ?_
  refine wpAny_loadName_local hk hka hns hself ?_
  refine PySem.ks_wpAny_isType_cls (X0 _ _ hC) rfl ⟨rfl, ?_⟩
  refine PySem.ks_wpAny_call_super (X0 _ _ hC) rfl (kp _ _ hoe) rfl (fun c => nofun) (PySem.W.looks_mroIn X0 Ic.sub) (fun h' hso k1 => ?_)
  have X1 : K.In h' := X0.keeps k1
  have ne : e ≠ C := fun z => by
    have y := kp _ _ hoe
    rw [z, X0 _ _ hC] at y
    cases y
  have Ie : PySem.W.InstAt h' e { cls := .ref C, dict := none, data := .fields #[.ref t1, .none, .none, .none, .bool false, .none] } C none := ⟨k1 _ _ (kp _ _ hoe), rfl, rfl, trivial⟩
  have hsi : PySem.W.alongIn K "__init__" ((({ name := nm, bases := bs, mro := .ref C :: bm, ns := N, qualname := q, hasDict := true, slotNames := sn, subclasses := sub, abstract := ab, collection := col, hasDel := false } : ClassData).mro.dropWhile (· != .ref C)).drop 1) = some (some (.builtin "ValueError.__init__")) := by
    have y := Ic.si
    unfold PySem.W.ks_superIn at y
    rw [hcl] at y
    exact y
  refine PySem.W.kxs_getMethod PySem.W.kxs_ValueError (x := e) (C := C) (D := C) hso (PySem.W.looks_opaque X1 Ic.opq) (fun A Q E s k q => wpAny_bind ((PySem.W.looks_clsIn X1 hcl) A _ E s k (wpAny_pure q))) rfl X1 hsi (Ie.type.andThen (PySem.W.looks_subIn X1 Ic.ve)) ne (by decide) ?_
  have k2 : ∀ b o, h'.get? b = some o → (h'.push (PySem.W.kxs_mw "ValueError.__init__" e)).get? b = some o := fun b o z => Heap.get?_push_of_some _ z
  refine PySem.W.kxs_callWith (i := "ValueError.__init__") (x := e) rfl (Calls.evalArgs_plain (Calls.spliced_cons (wpAny_Name (wpAny_loadName_local hk hkx (m := fun y => List.lookup y ([ar.arg, x].zip [Value.ref e, u]).reverse) ?_ hx (Calls.spliced_nil ⟨?_, ?_⟩)) Ic.db2)))
  · exact (hns.keeps k1).keeps k2
  · exact Heap.get?_push_at rfl rfl
  have FB := PySem.F.excBase_ValueError
  have hmw : (h'.push (PySem.W.kxs_mw "ValueError.__init__" e)).get? h'.objs.size = some (PySem.W.kxs_mw "ValueError.__init__" e) := Heap.get?_push_at rfl rfl
  have he2 := k2 _ _ (k1 _ _ (kp _ _ hoe))
  refine wpAny_call (codeAny_of_tree (show wpAny _ (A.deeper (PySem.W.ksEnv qual scope hp0.objs.size fI (.ref cda) cc)).in1 (callAny (.ref h'.objs.size) ⟨[u], []⟩) _ _ _ from ?_))
  simp only [callAny]
  refine wpAny_bind (wpAny_load hmw ?_)
  simp only [PySem.W.kxs_mw, show ((Value.type "method-wrapper" == Value.type "method" || Value.type "method-wrapper" == Value.type "builtin_function_or_method") || Value.type "method-wrapper" == Value.type "method-wrapper") = true by decide, if_true]
  refine PySem.W.KFB.if_so (by decide) (wpAny_bind (PySem.W.check_bound_init FB.toExcCallFacts (k2 _ _ (k1 _ _ (X0 _ _ hC))) he2 rfl (wpAny_bind (wpAny_pure (wpAny_pure ⟨plainId_quiet FB.init.plain _, codeAny_builtin FB.initEntry ?_⟩)))))
  refine PySem.W.exc_init_tree (cls := .ref C) (t0 := t1) (dv := none) (c2 := .none) (c3 := .none) (b4 := .bool false) he2 (by rw [sizeLine_eq]; show 1 ≤ 16777216; decide) fun h3 k3 he3 ht3 => ?_
  have kk : ∀ b o, b ≠ e → hp0.get? b = some o → h3.get? b = some o := fun b o nb z => k3 _ _ nb (k2 _ _ (k1 _ _ (kp _ _ z)))
  obtain ⟨oL, es, ep, hL, rL⟩ := hns
  have hLe : hp0.objs.size ≠ e := fun z => absurd (Heap.lt_size hoe) (by rw [← z]; exact Nat.lt_irrefl _)
  have hL3 : h3.get? hp0.objs.size = some oL := k3 _ _ hLe (k2 _ _ (k1 _ _ hL))
  have X3 : K.In h3 := fun b o z => kk b o (fun y => by
    have y2 := (e0.bs _ _ (e0.mod.kin _ _ z)).2
    rw [y, he] at y2
    cases y2) (KX _ _ z)
  have hns3 : h3.Ns hp0.objs.size (fun y => List.lookup y ([ar.arg, x].zip [Value.ref e, u]).reverse) := ⟨oL, es, ep, hL3, rL⟩
  show PySem.wpAt _ _ _ _ _ _ _
  refine PySem.ks_wpAt_execs_cons (PySem.ks_wpAt_Assign_Attr (wpAt_of_wpAny (wpAny_Name (wpAny_loadName_local hk hkx hns3 hx (wpAny_Name (wpAny_loadName_local hk hka hns3 hself ?_) Ic.db1)) Ic.db2)) hsw2)
  refine PySem.W.set_plain X3 (ox := { cls := .ref C, dict := none, data := .fields #[.ref (h'.push (PySem.W.kxs_mw "ValueError.__init__" e)).objs.size, .none, .none, .none, .bool false, .none] }) (od := none) ⟨he3, rfl, rfl, trivial⟩ Ic.T.sa ?_
  refine PySem.HandSPX.exc_osa X3 he3 hcl (show PySem.HandSPX.refsVE (.ref C :: bm) = true from hbm) rfl Ic.no (fun h4 tk' dx k4 dn dne hx4 hn4 => ?_)
  have hdx : hp0.objs.size ≤ dx := Nat.le_of_lt (Nat.lt_of_lt_of_le (Heap.lt_size hL3) dn)
  have hnd : H dx = none := e0.hok.fresh hdx
  have nd : ∀ {b : Addr} {o : Obj}, hp0.get? b = some o → b ≠ dx := fun {b o} q => Nat.ne_of_lt (Nat.lt_of_lt_of_le (Heap.lt_size q) hdx)
  have na : ∀ {b : Addr}, H b = none → b ≠ e := fun {b} n z => by
    rw [z, he] at n
    cases n
  have k5 : ∀ b o, b ≠ e → hp0.get? b = some o → h4.get? b = some o := fun b o nb z => k4 b o nb (kk b o nb z)
  have un : Un (frs outer) [] H (upd (upd H dx (exd dx [(f, v)])) e (exo e C (some dx))) hp0 h4 := {
    keep := fun b o q n _ _ => k5 b o (na n) q
    slot := fun b o q n _ _ => ⟨o.slots, k5 b o (na n) q⟩
    free := fun b o q n _ => (upd_ne (na n)).trans ((upd_ne (nd q)).trans n)
    there := fun b o q _ => by
      by_cases hb : b = e
      · exact ⟨_, hb ▸ hx4⟩
      · exact ⟨o, k5 b o hb q⟩
    tups := fun b xs q => (upd_ne (at_ne he q exo_tup)).trans ((upd_ne (ne_of_none q hnd)).trans q)
    frzs := fun b o v q => (upd_ne (at_ne he q exo_frz)).trans ((upd_ne (ne_of_none q hnd)).trans q)
    tbls := fun b ps q => ⟨#[], (upd_ne (at_ne he q exo_tbl)).trans ((upd_ne (ne_of_none q hnd)).trans (by rw [q]; simp))⟩ }
  have hok : HOk P w (upd (upd H dx (exd dx [(f, v)])) e (exo e C (some dx))) h4 := fun b o q => by
    by_cases hb : b = e
    · subst hb
      rw [upd_same] at q
      cases q
      exact exo_ok hx4
    · rw [upd_ne hb] at q
      by_cases hd : b = dx
      · subst hd
        rw [upd_same] at q
        cases q
        exact exd_ok hn4 (relO_put (fs := []) ru fun g => True.intro)
      · rw [upd_ne hd] at q
        refine (e0.hok b o q).stay (fun c v hc z => k5 c v (fun y => ?_) z) (fun c hc => (upd_ne (at_ne he hc exo_own)).trans ((upd_ne (ne_of_none hc hnd)).trans hc)) fun c xs hc => (upd_ne (at_ne he hc exo_tup)).trans ((upd_ne (ne_of_none hc hnd)).trans hc)
        rcases hc with hc | hc
        · exact hb (hc ▸ y)
        · exact at_ne he hc exo_own y
  show PySem.wpAt _ _ _ (execs [] _) _ _ _
  refine wpAt_of_wpAny (wpAny_execs_nil ?_)
  exact ⟨.non, _, rfl, e0.bare, un, hok, rfl, hq dx hnd dne⟩
end DL
set_option Elab.async false
set_option linter.all false
set_option maxRecDepth 100000
set_option maxHeartbeats 4000000
namespace DL
open PySem PySem.Spec PyProof.Rows L2
/-! ### raise C(e), and what a clause tells of it -/
structure ErrC (P : Program) (K : Frg) (mg : Str → Option Value) (c : Str) (C fI : Addr) (f sf x : Str) (fd : FuncData) : Prop extends InitC P K mg C fI f sf x fd where
  gC : mg c = some (.ref C)
  iC : PySem.W.findIn K (.ref C) "__init__" = some (some (.ref fI))
  tI : PySem.W.typeIn K (.ref fI) = some (.type "function")
  xf : XfC K C
  te : PySem.W.exmOne K (.ref C) (.ref C) = some true
def gRaise (c f : Str) (g : SS → R D) : SS → R Fl := fun δ => (g δ).bind fun x δ1 => .ex c f x δ1
section
variable {X : Cx} {S : Sx} {W : WX} {e : Expr} {p pos pos2 : Pos} {ga : SS → R D} {c f sf x : Str} {C fI : Addr} {fd : FuncData}
theorem noPass : Passes (L2.CX X.prog X.w) X (fun _ _ _ => False) := fun _ _ _ _ _ _ _ h => by
  obtain ⟨_, _, _, _, _, _, _, _, _, _, _, _, z⟩ := h
  exact z.elim
theorem st_raise (Er : ErrC X.prog X.K X.mg c C fI f sf x fd) (hr : Room 2 X.A) (tk : Takes X W) (h : EV X S W e ga) (hc : X.calm = true := by rfl) (hg : Gl X c := by rfl) (hdb : (c == ("__debug__" : Str)) = false := by decide)
    (he : starEach [e] X.env = (false, eval e X.env) :: starEach [] X.env := by rfl) (hpl : (backTo pos (starEach [] X.env)).any (·.1) = false := by rfl) : ST X S W (.Raise (some (.Call (.Name c p) [e] [] pos)) none pos2) (gRaise c f ga) := by
  obtain ⟨t, pe, q⟩ := h
  refine ⟨_, ps_raise hc tk (pmk_oex (k := 1) Er.T Er.iC Er.tI (init_fn (w := X.w) (base := X.base) Er.toInitC) hr Er.bind .nil noPass hg Er.gC (pa_cons pe pa_nil he) hdb he hpl), fun Y A σ H δ F E hl Rl h => ?_⟩
  refine q _ _ _ _ _ _ _ Rl (RunS.bind h fun y δ1 v H1 F1 _ R1 s1 rx h1 => ?_)
  refine ⟨by show 1 ≤ 1000; decide, fun a ha => ⟨a, v, rfl, upd_same, fun dx hdx hne => ⟨rfl, dx, [(f, v)], upd_same, ?_, ?_, ?_⟩⟩⟩
  · rw [upd_ne hne, upd_same]
  · rw [upd_ne hne] at hdx
    exact hdx
  · have hd : H1 dx = none := by
      rw [upd_ne hne] at hdx
      exact hdx
    have eh : upd (del (upd (upd (upd H1 a (exo a C none)) dx (exd dx [(f, v)])) a (exo a C (some dx))) a) dx (.xd [(f, v)]) = upd H1 dx (.xd [(f, v)]) := by
      funext b
      by_cases h1 : b = dx
      · rw [h1, upd_same, upd_same]
      · rw [upd_ne h1, upd_ne h1]
        by_cases h2 : b = a
        · rw [h2, del_same, ha]
        · rw [del_ne h2, upd_ne h2, upd_ne h1, upd_ne h2]
    rw [eh]
    exact h1 _ _ _ _ _ _ (R1.laid hd) (Same.refl _) ⟨C, dx, v, Er.gC, rfl, rfl, upd_same, rx⟩
end
/-! ### x(lambda: e), x the def that tells the field of the error that e lets out, or '' -/
def TTref (C : Addr) (f : Str) : (XK → Hp → VK → Prop) → Hp → VK → Prop := fun tl H Q =>
  tl (fun cls d H' => cls = .ref C ∧ ∃ (dd : Addr) (v : V), d = some dd ∧ H' dd = some (.xd [(f, v)]) ∧ Q v H') H (fun _ H1 => Q (.str "") H1)
section
variable {X : Cx}
theorem pe_slot {Z : Cx} {i : Nat} {x : Str} {pos : Pos} {N : List Str} (h : PE Z (.Name x pos) (tVar i)) (hN : Z.N = N) : PE Z (.Name x pos) (fun σ H Q => σ.length = N.length → tVar i σ H Q) :=
  ⟨fun pins s σ H Q I k => h.run pins s σ H Q I (k (by rw [← hN]; exact I.len))⟩
theorem ref_gives {Ng : List Str} {x a en c f q : Str} {sg : Scope} {g C : Addr} {cdg : Value} {j : Nat} {p1 p2 p3 p4 p5 p6 p7 p8 p9 p10 p11 : Pos} (xf : XfC X.K C) (hno : PySem.W.findIn X.K (.ref C) f = some none) (te : PySem.W.exmOne X.K (.ref C) (.ref C) = some true)
    (hgc : sg.names.lookup c = some .globalImplicit) (hmc : X.mg c = some (.ref C)) (hdc : (c == ("__debug__" : Str)) = false) (h0 : ∀ f : Addr, (L2.start Ng [V.ref f])[0]? = some (some (V.ref f))) (hN : Ng.Nodup) (h1 : Ng[1]? = some en) (hln : sg.names.lookup en = some .local)
    (hd : (en == ("__debug__" : Str)) = false) (hcd : (en == ("__classdict__" : Str)) = false)
    (hab : ∀ L, attributeBase (.Name en p5) f (envOfC x sg L g cdg) (eval (.Name en p5) (envOfC x sg L g cdg)) = eval (.Name en p5) (envOfC x sg L g cdg)) (hsw : ∀ L, swapsWith (.Call (.Name a p1) [] [] p2) none p3.line (envOfC x sg L g cdg) = pure false) :
    LamX.GivesTo X Ng x sg g cdg [.Try [.Expr (.Call (.Name a p1) [] [] p2) p3] [.ExceptHandler (some (.Name c p4)) (some en) [.Return (some (.Attribute (.Name en p5) f p6)) p7] p8] [] [] p9, .Return (some (.Constant (.str "") j p10)) p11] a q (TTref C f) := by
  intro ff c' s H Q tl act hc h
  have hgl : Gl (cxOf C8.CX0 X.prog X.w X.K X.mg X.base Ng x sg g cdg X.A X.stack s H C8.E0).nox c := hgc
  refine ⟨_, pss_cons (ps_try_as (i := 1) (X := (cxOf C8.CX0 X.prog X.w X.K X.mg X.base Ng x sg g cdg X.A X.stack s H C8.E0).nox) (c := .ref C)
      (tb := fun W D σ H => ∃ Ech : XK, (∀ cls d σ' H', Ech cls d H' → W cls d σ' H') ∧ σ[0]? = some (some (.ref ff)) ∧ H c' = some (LamX.CodeO c' q) ∧ tl Ech H fun _ H1 => D.nx σ H1)
      rfl rfl hN h1 hln ⟨hgl, hdc, .inl hmc⟩ LamX.takes0 (fun W pn xe tk _ => ?_) (fun a oe cls d pn hz hf => pss_one (ps_ret (pe_xf (X := (cxOf C8.CX0 X.prog X.w X.K X.mg X.base Ng x sg g cdg X.A X.stack s H C8.E0).nox) xf hno hz hf (pe_slot (N := Ng) (pe_var (i := 1) h1 (.inl hln) hd hcd) rfl) (hab _))))) (pss_one (ps_ret pe_str)), ?_⟩
  · refine ⟨fun pins s' σ H' D I h' => ?_⟩
    obtain ⟨Ech, hW, h1, h2, h3⟩ := h'
    have hq := pss_one (ps_expr (pos := p3) (act W pn xe Ech p1 p2 tk hW) (hsw _))
    exact hq.run pins s' σ H' D I ⟨h1, h2, h3⟩
  · refine ⟨_, fun cls d σ' H' hh => ?_, h0 ff, hc, h⟩
    obtain ⟨rfl, dd, v, e1, e2, e3⟩ := hh
    refine ⟨true, te, fun _ a ha => ?_, fun z => nomatch z⟩
    refine fun hl => ⟨.ref a, ?_, rfl, rfl, dd, _, v, e1, e2, by simp [List.lookup], e3⟩
    rw [List.getElem?_set_self]
    have : 1 < Ng.length := (List.getElem?_eq_some_iff.mp h1).1
    rw [List.length_set] at hl
    omega
def gRef (c f : Str) (g : SS → R D) : SS → R D := fun δ => match g δ with
  | .bad => .bad
  | .ok _ δ1 => .ok (.str "") δ1
  | .ex c' f' x δ1 => if c' = c ∧ f' = f then .ok x δ1 else .bad
theorem ev_ref {S : Sx} {W : WX} {cE fE : Str} {C : Addr} {x a : Str} {g c P : Addr} {k : Nat} {pg : Arguments} {bg : List Stmt} {sg : Scope} {dV kV doc pm cdv ct oc : Value} {an od : Option Addr} {osl : Array (Option Value)} {Ng : List Str}
    {params : Arguments} {body : Expr} {scope : Scope} {gb : SS → R D} {p lpos pos : Pos} (hm : X.mg x = some (.ref g)) (hk : PySem.W.keepIn X.K (.ref g) = true) (hmE : X.mg cE = some (.ref C))
    (lk : X.K.lookup g = some ⟨oc, od, .func (PySem.W.fnOf x x pg bg sg dV kV doc pm an cdv ct), osl⟩) (hcg : PySem.W.codeIn X.K cdv x = true) (hb : L2.Binds X.K (PySem.W.fnOf x x pg bg sg dV kV doc pm an cdv ct) [a] []) (Sg : FnScope Ng [a] sg) (hNg : Ng[0]? = some a) (hva : Vis sg a)
    (hG : LamX.GivesTo X Ng x sg g cdv bg a (X.env.qual ++ "<lambda>") (TTref C fE))
    (TB : LamX.TabB X.base X.mg c P) (hcode : X.env.code = .ref c) (hmT : (P, X.env.qual ++ "<lambda>") ∈ S.T) (hu : ∀ p ∈ S.T, p.1 = P → p.2 = X.env.qual ++ "<lambda>") (hr : Room (k + 2) X.A) (L : LamX.LamS X.env.scope scope) (hdef : defaultsOf params X.env = ([], []))
    (hbind : ∀ (q : Str) (cl : List (Str × Addr)) (pm cv ctv : Value), bindArgs (PySem.W.kla_fn "<lambda>" q params body scope cl pm cv ctv) ⟨[], []⟩ = pure [])
    (hbody : ∀ (A : Around) (outer : List Env) (s : Shared) (H : Hp) (E : XK) (f c' : Addr), Room k (A.deeper (LamX.lamEnv X scope s.heap.objs.size f c')) → EV (LamX.lamCx X A outer s H E scope f c') S (fun cls d _ H => E cls d H) body gb)
    (hg : Gl X x := by rfl) (hdb : (x == ("__debug__" : Str)) = false := by decide) (hd : (a == ("__debug__" : Str)) = false := by decide) (hcd : (a == ("__classdict__" : Str)) = false := by decide) :
    EV X S W (.Call (.Name x p) [.Lambda params body scope lpos] [] pos) (gRef cE fE gb) := by
  refine ⟨_, LamX.pe_lamcall (t := fun E => tEV X.K X.mg S (fun cls d _ H => E cls d H) gb) hg hm hk lk hcg hb Sg hNg hva hG TB hcode hmT hu hr L hdef hbind (fun A outer s H E f c' hr2 => ev_pe (hbody A outer s H E f c' hr2)) hdb hd hcd, fun Y A σ H δ F Q Rl h => ⟨Rl.tabs, fun H1 eN T1 => ?_⟩⟩
  refine ⟨Y, A, δ, F, Rl.extN eN T1, ?_⟩
  unfold gRef at h
  cases eg : gb δ with
  | bad =>
    rw [eg] at h
    exact h.elim
  | ok y δ1 =>
    rw [eg] at h
    exact fun v H2 F2 R2 s2 _ => h _ _ _ R2 s2 (.str "")
  | ex c' f' y δ1 =>
    rw [eg] at h
    by_cases hcf : c' = cE ∧ f' = fE
    · have h2 : Run X.K X.mg S Y A σ W (ρD X.K) F (if c' = cE ∧ f' = fE then .ok y δ1 else .bad) Q := h
      rw [if_pos hcf] at h2
      obtain ⟨rfl, rfl⟩ := hcf
      intro cls dd H2 F2 R2 s2 ⟨C2, dx, v, e1, e2, e3, e4, e5⟩
      rw [hmE] at e1
      cases e1
      exact ⟨e2, dx, v, e3, e4, h2 _ _ _ R2 s2 e5⟩
    · have h2 : Run X.K X.mg S Y A σ W (ρD X.K) F (if c' = cE ∧ f' = fE then .ok y δ1 else .bad) Q := h
      rw [if_neg hcf] at h2
      exact h2.elim
end
end DL
set_option Elab.async false
set_option linter.all false
set_option maxRecDepth 100000
set_option maxHeartbeats 4000000
namespace DL
open PySem PySem.Spec PyProof.Rows L2
/-! ### defs of the module by name -/
abbrev FnP (K : Frg) (x : Str) (st : Stmt) (f : Addr) (fd : FuncData) : Prop := FunD K x x (defArgs st) (defBody st) (defScope st) [] [] f fd
structure DOk (P : Program) (w : World) (K : Frg) (mg : Str → Option Value) (base : Heap) (T : List (Addr × Str)) (k : Nat) (x : Str) (ps : List Str) (st : Stmt) (G : List SV → RF) : Prop where
  ex : ∃ f fd, mg x = some (.ref f) ∧ FnP K x st f fd ∧ L2.Binds K fd ps [] ∧ FnOk P w K mg base (L2.CX P w) k f fd ps (spD K mg T ps.length G)
section
variable {P : Program} {w : World} {K : Frg} {mg : Str → Option Value} {base : Heap}
theorem fn_D2 {x qual : Str} {params : Arguments} {body : List Stmt} {scope : Scope} {f : Addr} {fd : FuncData} {N ps : List Str} {k m : Nat} {T : List (Addr × Str)} {gb : SS → R Fl} (Fn : FunD K x qual params body scope [] [] f fd) (Sc : FnScope N ps scope) (hm : N.length = ps.length + m)
    (hbody : ∀ (cdv : Value), fd.code = cdv → PySem.W.codeIn K cdv qual = true → ∀ (A : Around) (outer : List Env) (s : Shared) (H : Hp) (E : XK), Room k (A.deeper (envOfC qual scope s.heap.objs.size f cdv)) →
      STs (cxOf (L2.CX P w) P w K mg base N qual scope f cdv A outer s H E) ⟨T, ps.length⟩ (fun cls d _ H => E cls d H) body gb) :
    FnOk P w K mg base (L2.CX P w) (k + 1) f fd ps (spD K mg T ps.length (gDef ps.length m gb)) := by
  obtain ⟨oc, od, dV, kV, doc, pm, an, cdv, ct, osl, rfl, lk, hcd, _, _⟩ := Fn.ex
  refine fn_of lk hcd Sc (fun vs H Q E h => h.choose_spec.choose_spec.choose_spec.1) fun A outer s H vs Q E hr hsp => ?_
  obtain ⟨t, p, q⟩ := hbody cdv rfl hcd A outer s H E hr
  refine ⟨t, p, ?_⟩
  obtain ⟨F, A0, svs, h1, h2, R0, h3⟩ := hsp
  have R1 := R0.pad m
  have e : L2.start N vs = vs.map some ++ List.replicate m none := by
    unfold L2.start
    rw [h1, hm, Nat.add_sub_cancel_left]
  rw [e]
  refine q _ A0 _ _ _ F _ ?_ R1 ?_
  · show _ = N.length
    rw [hm]
    simp [h1]
  · unfold gDef at h3
    rw [if_pos h2] at h3
    cases eg : gb (svs.map some ++ List.replicate m none) with
    | bad =>
      rw [eg] at h3
      exact h3
    | ex c f x δ =>
      rw [eg] at h3
      exact fun cls dd σ' H' F' A' R' s' ee => h3 cls dd F' A' H' σ' δ R' rfl s' ee
    | ok fl δ =>
      rw [eg] at h3
      cases fl with
      | nx => exact fun σ' H' F' A' R' s' => h3 _ F' A' H' σ' δ R' rfl s' .non
      | bk => exact h3.elim
      | ct => exact h3.elim
      | rt r => exact fun v σ' H' F' A' R' s' rv => h3 v F' A' H' σ' δ R' rfl s' rv
theorem mk_D {x : Str} {st : Stmt} {fd : FuncData} {N ps : List Str} {k m : Nat} {T : List (Addr × Str)} {gb : SS → R Fl} (hg : mg x = some (.ref (He.fAd K (x, none)))) (Fn : FnP K x st (He.fAd K (x, none)) fd) (Sc : FnScope N ps (defScope st)) (hm : N.length = ps.length + m)
    (hb : ∀ (kV doc pm : Value) (an : Option Addr) (cdv ct : Value) (us : List Value), us.length = ps.length → bindArgs (PySem.W.fnOf x x (defArgs st) (defBody st) (defScope st) .none kV doc pm an cdv ct) ⟨us, []⟩ = pure (ps.zip us))
    (hbody : ∀ (cdv : Value), cdv = .ref (He.codeOf K (x, none)) → ∀ (A : Around) (outer : List Env) (s : Shared) (H : Hp) (E : XK), Room k (A.deeper (envOfC x (defScope st) s.heap.objs.size (He.fAd K (x, none)) cdv)) →
      STs (cxOf (L2.CX P w) P w K mg base N x (defScope st) (He.fAd K (x, none)) cdv A outer s H E) ⟨T, ps.length⟩ (fun cls d _ H => E cls d H) (defBody st) gb) : DOk P w K mg base T (k + 1) x ps st (gDef ps.length m gb) := by
  refine ⟨_, fd, hg, Fn, FunD.bindsN Fn hb, fn_D2 Fn Sc hm fun cdv hc hcd A outer s H E hr => hbody cdv ?_ A outer s H E hr⟩
  obtain ⟨c, e⟩ := He.codeIn_ref hcd
  obtain ⟨oc, od, dV, kV, doc, pm, an, cdv', ct, osl, rfl, lk, _⟩ := Fn.ex
  rw [e, He.codeOf_eq lk (hc.trans e)]
end
section
variable {X : Cx} {S : Sx} {W : WX} {e : Expr} {es : List Expr} {kws : List Keyword} {pos p : Pos} {gs : SS → R (List Ag)} {k : Nat} {ps : List Str} {x : Str} {st : Stmt} {G : List SV → RF}
theorem rv_callD {np : Nat} (D : DOk X.prog X.w X.K X.mg X.base S.T k x ps st G) (hr : Room k X.A) (tk : Takes X W)
    (ha : AGV X S W (e :: es) gs) (hnp : ps.length = np := by rfl) (hg : Gl X x := by rfl) (hdb : (x == ("__debug__" : Str)) = false := by decide) (he : starEach (e :: es) X.env = (false, eval e X.env) :: starEach es X.env := by rfl) (hpl : (backTo pos (starEach es X.env)).any (·.1) = false := by rfl) :
    RVJ X S W (.Call (.Name x p) (e :: es) [] pos) (gCallR np G gs) := by
  subst hnp
  obtain ⟨f, fd, h1, h2, h3, h4⟩ := D.ex
  exact rv_call h4 hr h1 h2.kp h3 tk ha hg hdb he hpl
theorem kb_of {f : Addr} {fd : FuncData} {ks : List Str} {m : Nat} {π : List Nat} (F : FnP X.K x st f fd) (h : ∀ (kV doc pm : Value) (an : Option Addr) (cdv ct : Value) (us ws : List Value), us.length = m → ws.length = ks.length →
    bindArgs (PySem.W.fnOf x x (defArgs st) (defBody st) (defScope st) .none kV doc pm an cdv ct) ⟨us, ks.zip ws⟩ = pure (ps.zip (pick π (us ++ ws)))) : KB X.K fd ps ks π m := by
  obtain ⟨oc, od, dV, kV, doc, pm, an, cdv, ct, osl, rfl, lk, hcd, hD, hK⟩ := F.ex
  rcases hD with ⟨_, rfl⟩ | ⟨e, _⟩
  · exact fun s us ws _ h1 h2 => .of_eq (h kV doc pm an cdv ct us ws h1 h2)
  · exact absurd rfl e
theorem rv_callKD {np mk : Nat} {gk : SS → R (List Ag)} (ks : List Str) (m : Nat) (π : List Nat) (D : DOk X.prog X.w X.K X.mg X.base S.T k x ps st G) (hr : Room k X.A) (tk : Takes X W)
    (hb : ∀ (kV doc pm : Value) (an : Option Addr) (cdv ct : Value) (us ws : List Value), us.length = m → ws.length = ks.length →
      bindArgs (PySem.W.fnOf x x (defArgs st) (defBody st) (defScope st) .none kV doc pm an cdv ct) ⟨us, ks.zip ws⟩ = pure (ps.zip (pick π (us ++ ws))))
    (ha : AGV X S W (e :: es) gs) (hkw : AGK X S W kws gk) (hnp : ps.length = np := by rfl) (hmk : ks.length = mk := by rfl) (hg : Gl X x := by rfl) (hall : (backToKw pos (keywordEach kws X.env)).all (·.1.isSome) = true := by rfl) (hks : (backToKw pos (keywordEach kws X.env)).filterMap (·.1) = ks := by rfl)
    (hdb : (x == ("__debug__" : Str)) = false := by decide) (he : starEach (e :: es) X.env = (false, eval e X.env) :: starEach es X.env := by rfl)
    (hpl : ((backTo pos (starEach (e :: es) X.env)).any (·.1) || (backToKw pos (keywordEach kws X.env)).any (·.1.isNone)) = false := by rfl) : RVJ X S W (.Call (.Name x p) (e :: es) kws pos) (gCallKN np m mk π G gs gk) := by
  subst hnp hmk
  obtain ⟨f, fd, h1, h2, h3, h4⟩ := D.ex
  exact rv_callK h4 hr h1 h2.kp (kb_of h2 hb) tk ha hkw hg hall hks hdb he hpl
theorem rv_callKD0 {np mk : Nat} {gk : SS → R (List Ag)} (ks : List Str) (π : List Nat) (D : DOk X.prog X.w X.K X.mg X.base S.T k x ps st G) (hr : Room k X.A) (tk : Takes X W)
    (hb : ∀ (kV doc pm : Value) (an : Option Addr) (cdv ct : Value) (us ws : List Value), us.length = 0 → ws.length = ks.length →
      bindArgs (PySem.W.fnOf x x (defArgs st) (defBody st) (defScope st) .none kV doc pm an cdv ct) ⟨us, ks.zip ws⟩ = pure (ps.zip (pick π (us ++ ws))))
    (hkw : AGK X S W kws gk) (hnp : ps.length = np := by rfl) (hmk : ks.length = mk := by rfl) (hg : Gl X x := by rfl) (hall : (backToKw pos (keywordEach kws X.env)).all (·.1.isSome) = true := by rfl) (hks : (backToKw pos (keywordEach kws X.env)).filterMap (·.1) = ks := by rfl)
    (hdb : (x == ("__debug__" : Str)) = false := by decide)
    (hpl : ((backTo pos (starEach [] X.env)).any (·.1) || (backToKw pos (keywordEach kws X.env)).any (·.1.isNone)) = false := by rfl) : RVJ X S W (.Call (.Name x p) [] kws pos) (gCallKN np 0 mk π G gAg0 gk) := by
  subst hnp hmk
  obtain ⟨f, fd, h1, h2, h3, h4⟩ := D.ex
  exact rv_callK0 h4 hr h1 h2.kp (kb_of h2 hb) tk hkw hg hall hks hdb hpl
theorem ev_globI' {i : Int} (hm : ∃ t, X.mg x = some (.int i t)) (hg : Gl X x := by rfl) (hd : (x == ("__debug__" : Str)) = false := by decide) : EV X S W (.Name x pos) (gC (.int i)) := by
  obtain ⟨t, h⟩ := hm
  exact ev_globI h hg hd
theorem ev_globS' {i : Str} (hm : ∃ t, X.mg x = some (.str i t)) (hg : Gl X x := by rfl) (hd : (x == ("__debug__" : Str)) = false := by decide) : EV X S W (.Name x pos) (gC (.str i)) := by
  obtain ⟨t, h⟩ := hm
  exact ev_globS h hg hd
/-- x(lambda: e), by the facts of x -/
theorem ev_refD {cE fE sf xE : Str} {C fI : Addr} {fdE : FuncData} {a en : Str} {sr : Stmt} {Ng : List Str} {c Pt : Addr} {params : Arguments} {body : Expr} {scope : Scope} {gb : SS → R D} {lpos : Pos} {j : Nat} {p1 p2 p3 p4 p5 p6 p7 p8 p9 p10 p11 : Pos}
    (Er : ErrC X.prog X.K X.mg cE C fI fE sf xE fdE) (hm : X.mg x = some (.ref (He.fAd X.K (x, none)))) (Fn : ∃ fd, FnP X.K x sr (He.fAd X.K (x, none)) fd)
    (hbd : ∀ (kV doc pm : Value) (an : Option Addr) (cdv ct : Value) (us : List Value), us.length = [a].length → bindArgs (PySem.W.fnOf x x (defArgs sr) (defBody sr) (defScope sr) .none kV doc pm an cdv ct) ⟨us, []⟩ = pure ([a].zip us)) (Sg : FnScope Ng [a] (defScope sr)) (hNg : Ng[0]? = some a) (hva : Vis (defScope sr) a)
    (hsr : defBody sr = [.Try [.Expr (.Call (.Name a p1) [] [] p2) p3] [.ExceptHandler (some (.Name cE p4)) (some en) [.Return (some (.Attribute (.Name en p5) fE p6)) p7] p8] [] [] p9, .Return (some (.Constant (.str "") j p10)) p11])
    (hgc : (defScope sr).names.lookup cE = some .globalImplicit) (h1 : Ng[1]? = some en) (hln : (defScope sr).names.lookup en = some .local) (hN2 : Ng.length = 2)
    (hab : ∀ g cdg L, attributeBase (.Name en p5) fE (envOfC x (defScope sr) L g cdg) (eval (.Name en p5) (envOfC x (defScope sr) L g cdg)) = eval (.Name en p5) (envOfC x (defScope sr) L g cdg)) (hsw : ∀ g cdg L, swapsWith (.Call (.Name a p1) [] [] p2) none p3.line (envOfC x (defScope sr) L g cdg) = pure false)
    (TB : LamX.TabB X.base X.mg c Pt) (hcode : X.env.code = .ref c) (hmT : (Pt, X.env.qual ++ "<lambda>") ∈ S.T) (hu : ∀ p ∈ S.T, p.1 = Pt → p.2 = X.env.qual ++ "<lambda>") (hr : Room (k + 2) X.A) (L : LamX.LamS X.env.scope scope) (hdef : defaultsOf params X.env = ([], []))
    (hbind : ∀ (q : Str) (cl : List (Str × Addr)) (pm cv ctv : Value), bindArgs (PySem.W.kla_fn "<lambda>" q params body scope cl pm cv ctv) ⟨[], []⟩ = pure [])
    (hbody : ∀ (A : Around) (outer : List Env) (s : Shared) (H : Hp) (E : XK) (f c' : Addr), Room k (A.deeper (LamX.lamEnv X scope s.heap.objs.size f c')) → EV (LamX.lamCx X A outer s H E scope f c') S (fun cls d _ H => E cls d H) body gb)
    (hg : Gl X x := by rfl) (hdb : (x == ("__debug__" : Str)) = false := by decide) (hd : (a == ("__debug__" : Str)) = false := by decide) (hcd : (a == ("__classdict__" : Str)) = false := by decide) (hdc : (cE == ("__debug__" : Str)) = false := by decide)
    (hd2 : (en == ("__debug__" : Str)) = false := by decide) (hcd2 : (en == ("__classdict__" : Str)) = false := by decide) :
    EV X S W (.Call (.Name x p) [.Lambda params body scope lpos] [] pos) (gRef cE fE gb) := by
  obtain ⟨fd, Fn⟩ := Fn
  have hb := FunD.bindsN Fn hbd
  obtain ⟨oc, od, dV, kV, doc, pm, an, cdv, ct, osl, rfl, lk, hcd', _, _⟩ := Fn.ex
  refine ev_ref hm Fn.kp Er.gC lk hcd' hb Sg hNg hva ?_ TB hcode hmT hu hr L hdef hbind hbody hg hdb hd hcd
  rw [hsr]
  refine ref_gives Er.xf Er.no Er.te hgc Er.gC hdc (fun f => ?_) Sg.nd h1 hln hd2 hcd2 (hab _ _) (hsw _ _)
  unfold L2.start
  simp
theorem st_raiseD {ga : SS → R D} {c f sf y : Str} {pos2 : Pos} (Er : ∃ C fI fd, ErrC X.prog X.K X.mg c C fI f sf y fd) (hr : Room 2 X.A) (tk : Takes X W) (h : EV X S W e ga) (hc : X.calm = true := by rfl) (hg : Gl X c := by rfl) (hdb : (c == ("__debug__" : Str)) = false := by decide)
    (he : starEach [e] X.env = (false, eval e X.env) :: starEach [] X.env := by rfl) (hpl : (backTo pos (starEach [] X.env)).any (·.1) = false := by rfl) : ST X S W (.Raise (some (.Call (.Name c p) [e] [] pos)) none pos2) (gRaise c f ga) := by
  obtain ⟨C, fI, fd, Er⟩ := Er
  exact st_raise Er hr tk h hc hg hdb he hpl
end
/-! ### what the head tells of an own error with super().__init__ -/
structure IniD where
  cls : Str
  name : Str
  qual : Str
  params : Arguments
  body : List Stmt
  scope : Scope
abbrev FnC := Option (Str × Str × Arguments × FuncBody × Scope × Addr × List Str × Value × Addr)
def IniD.val (d : IniD) : FnC := some (d.name, d.qual, d.params, .stmts d.body, d.scope, mainGlobals, ["__class__"], .none, builtinsNs)
def iniObs (K : Frg) (c : Str) : FnC := match K.lookup (He.ma K (He.ga K c) "__init__") with
  | some ⟨_, _, .func fd, _⟩ => some (fd.name, fd.qualname, fd.params, fd.body, fd.scope, fd.globals, fd.closure.map (·.1), fd.defaults, fd.builtins)
  | _ => none
theorem ini_ok {K : Frg} {d : IniD} (h : iniObs K d.cls = d.val) : ∃ oc od osl kV doc pm an cdv ct cc, K.lookup (He.ma K (He.ga K d.cls) "__init__") = some ⟨oc, od, .func (PySem.W.ksFn d.name d.qual d.params d.body d.scope .none kV doc pm an cdv ct cc), osl⟩ := by
  unfold iniObs at h
  cases q : K.lookup (He.ma K (He.ga K d.cls) "__init__") with
  | none =>
    rw [q] at h
    cases h
  | some o =>
    obtain ⟨oc, od, dt, osl⟩ := o
    rw [q] at h
    cases dt with
    | func fd =>
      obtain ⟨n1, n2, n3, n4, n5, n6, n7, n8, n9, n10, n11, n12, n13, n14, n15⟩ := fd
      have e2 : (some (n1, n2, n3, n4, n5, n6, n7.map (·.1), n8, n15) : FnC) = some (d.name, d.qual, d.params, FuncBody.stmts d.body, d.scope, mainGlobals, [("__class__" : Str)], Value.none, builtinsNs) := h
      simp only [Option.some.injEq, Prod.mk.injEq] at e2
      obtain ⟨h1, h2, h3, h4, h5, h6, h7, h8, h9⟩ := e2
      subst h1 h2 h3 h4 h5 h6 h8 h9
      cases n7 with
      | nil => cases h7
      | cons a l =>
        cases l with
        | cons b l => simp at h7
        | nil =>
          obtain ⟨y, cc⟩ := a
          simp at h7
          subst h7
          exact ⟨oc, od, osl, n9, n10, n11, n12, n13, n14, cc, rfl⟩
    | _ => cases h
def oexB (K : Frg) (C : Addr) : Bool := match K.lookup C with
  | some ⟨.type "type", _, .cls cd, sl⟩ => (match cd.mro, sl.toList with
    | .ref C' :: bm, [_, _, _, _, some (.builtin n), _] => C' == C && (n == "ValueError.__new__" && (!cd.hasDel && (cd.hasDict && PySem.HandSPX.refsVE bm)))
    | _, _ => false)
  | _ => false
theorem oexB_ok {K : Frg} {C : Addr} (h : oexB K C = true) : ∃ nm q N bs bm sn sub ab col dd k0 k1 k2 k3 k5, K.lookup C = some (excClassObj nm q C N bs bm true sn sub ab col dd k0 k1 k2 k3 k5 "ValueError.__new__") ∧ PySem.HandSPX.refsVE bm = true := by
  unfold oexB at h
  split at h
  · rename_i dd cd sl ho
    split at h
    · rename_i C' bm k0 k1 k2 k3 n k5 hm hs
      simp only [Bool.and_eq_true, beq_iff_eq, Bool.not_eq_true'] at h
      obtain ⟨rfl, rfl, hdel, hdi, hbm⟩ := h
      obtain ⟨nm, bs, mro, ns, qn, hd, sn, sub, ab, col, del⟩ := cd
      obtain ⟨l⟩ := sl
      dsimp only at hm hdel hdi hs
      subst hm hdel hdi hs
      exact ⟨nm, qn, ns, bs, bm, sn, sub, ab, col, dd, k0, k1, k2, k3, k5, ho, hbm⟩
    · cases h
  · cases h
def fnAll (K : Frg) (fI C : Addr) (file0 : Str) : Bool := match K.lookup fI with
  | some ⟨_, _, .func fd, _⟩ => PySem.W.codeIn K fd.code fd.qualname && ((match fd.code with
    | .ref cda => (match K.lookup cda with
      | some ⟨_, _, .fields vs, _⟩ => (match (vs[2]? : Option Value) with
        | some (Value.str file _) => file0 == file
        | _ => false)
      | _ => false)
    | _ => false) && (match fd.closure with
    | [(_, cc)] => (match K.lookup cc with
      | some ⟨_, _, .cell (some (.ref D)), _⟩ => D == C
      | _ => false)
    | _ => false))
  | _ => false
theorem fnAll_ok {K : Frg} {fI C : Addr} {file0 : Str} {name qual : Str} {params : Arguments} {body : List Stmt} {scope : Scope} {dV kV doc pm : Value} {an : Option Addr} {cdv ct : Value} {cc : Addr} {oc : Value} {od : Option Addr} {osl : Array (Option Value)}
    (h : fnAll K fI C file0 = true) (lk : K.lookup fI = some ⟨oc, od, .func (PySem.W.ksFn name qual params body scope dV kV doc pm an cdv ct cc), osl⟩) : ∃ cda ccl cdd vs ccs file tf cl cld csl, cdv = .ref cda ∧ K.lookup cda = some ⟨ccl, cdd, .fields vs, ccs⟩ ∧ vs[2]? = some (.str file tf) ∧ (file0 == file) = true ∧
      PySem.W.codeIn K (.ref cda) qual = true ∧ K.lookup cc = some ⟨cl, cld, .cell (some (.ref C)), csl⟩ := by
  unfold fnAll at h
  rw [lk] at h
  obtain ⟨h1, h2⟩ := Bool.and_eq_true_iff.mp h
  obtain ⟨h2, h3⟩ := Bool.and_eq_true_iff.mp h2
  dsimp only at h1 h2 h3
  cases cdv with
  | ref cda =>
    have h2' : (match K.lookup cda with
      | some ⟨_, _, .fields vs, _⟩ => (match (vs[2]? : Option Value) with
        | some (Value.str file _) => file0 == file
        | _ => false)
      | _ => false) = true := h2
    have h3' : (match K.lookup cc with
      | some ⟨_, _, .cell (some (.ref D)), _⟩ => D == C
      | _ => false) = true := h3
    cases hc : K.lookup cda with
    | none =>
      rw [hc] at h2'
      cases h2'
    | some o =>
      obtain ⟨ccl, cdd, dt, ccs⟩ := o
      rw [hc] at h2'
      cases dt with
      | fields vs =>
        have h4 : (match (vs[2]? : Option Value) with
          | some (Value.str file _) => file0 == file
          | _ => false) = true := h2'
        split at h4
        · rename_i file tf hv
          cases he : K.lookup cc with
          | none =>
            rw [he] at h3'
            cases h3'
          | some o =>
            obtain ⟨cl, cld, dt, csl⟩ := o
            rw [he] at h3'
            split at h3'
            · rename_i D' e1 e2
              have e4 := beq_iff_eq.mp h3'
              cases e2
              rw [e4] at he
              exact ⟨cda, ccl, cdd, vs, ccs, file, tf, cl, cld, csl, rfl, hc, hv, h4, h1, by rw [e4]⟩
            · cases h3'
        · cases h4
      | _ => cases h2'
  | _ => cases h2
/-- all that a look at the written part tells of the error c with the field f -/
def errB (file0 : Str) (K : Frg) (c f : Str) : Bool :=
  oexB K (He.ga K c) && (decide (PySem.W.findIn K (.ref (He.ga K c)) "__setattr__" = some (some (.builtin "object.__setattr__"))) && (decide (PySem.W.subIn K (.ref (He.ga K c)) (.type "BaseException") = some true) && (decide (PySem.W.typeIn K (.ref (He.ga K c)) = some (.type "type")) && (PySem.W.keepIn K (.ref (He.ga K c)) &&
  (fnAll K (He.ma K (He.ga K c) "__init__") (He.ga K c) file0 && (decide (PySem.W.mroIn K (He.ga K c) (.ref (He.ga K c)) = some true) && (decide (PySem.W.ks_superIn K (He.ga K c) (He.ga K c) "__init__" = some (some (.builtin "ValueError.__init__"))) && (decide (PySem.W.subIn K (.ref (He.ga K c)) (.type "ValueError") = some true) &&
  (decide (PySem.W.nsIn K cStatics "thirdparty.any" = some none) && (decide (PySem.W.findIn K (.ref (He.ga K c)) f = some none) && (decide (PySem.W.findIn K (.ref (He.ga K c)) "__init__" = some (some (.ref (He.ma K (He.ga K c) "__init__")))) && (decide (PySem.W.typeIn K (.ref (He.ma K (He.ga K c) "__init__")) = some (.type "function")) &&
  (xfB K (He.ga K c) && decide (PySem.W.exmOne K (.ref (He.ga K c)) (.ref (He.ga K c)) = some true))))))))))))))
theorem errC_of {P : Program} {K : Frg} {mg : Str → Option Value} {c f sf x : Str} {d : IniD} (h : errB P.main.file K c f = true) (hc : d.cls = c) (ho : iniObs K d.cls = d.val) (hg : mg c = some (.ref (He.ga K c))) (hs : mg "super" = none) (htop : (P.main.scope.names.lookup ("super" : Str)).isSome = false)
    {p0 p1 apos pn cpos pe' ps p' px pa : Pos} {ar : Arg} (hbody : d.body = [.Expr (.Call (.Attribute (.Call (.Name "super" p0) [] [] p1) "__init__" apos) [.Name x pn] [] cpos) pe', .Assign [.Attribute (.Name sf ps) f p'] (.Name x px) pa])
    (har : (d.params.posonlyargs ++ d.params.args).head? = some ar) (hsf : ar.arg = sf) (hk : d.scope.kind = .function) (hco : d.scope.isCoroutine = false) (hge : d.scope.isGenerator = false) (hnc : ∀ y ∈ d.scope.names, y.2 ≠ .cell) (hsu : d.scope.names.lookup ("super" : Str) = some .globalImplicit)
    (hcl : d.scope.names.lookup ("__class__" : Str) = some .free) (hl1 : d.scope.names.lookup sf = some .local) (hl2 : d.scope.names.lookup x = some .local)
    (hsyn : ∀ (fI cda cc L : Addr), interactive (PySem.W.ksEnv d.qual d.scope L fI (.ref cda) cc) = false ∧ swapsWith (.Call (.Attribute (.Call (.Name "super" p0) [] [] p1) "__init__" apos) [.Name x pn] [] cpos) none pe'.line (PySem.W.ksEnv d.qual d.scope L fI (.ref cda) cc) = pure false ∧
      swapsWith (.Name x px) (some (.Attribute (.Name sf ps) f p')) pa.line (PySem.W.ksEnv d.qual d.scope L fI (.ref cda) cc) = pure false ∧ ∃ pl : Sem Bool, eval (.Call (.Attribute (.Call (.Name "super" p0) [] [] p1) "__init__" apos) [.Name x pn] [] cpos) (PySem.W.ksEnv d.qual d.scope L fI (.ref cda) cc) = (do
        let ov ← attributeBase (.Call (.Name "super" p0) [] [] p1) "__init__" (PySem.W.ksEnv d.qual d.scope L fI (.ref cda) cc) (eval (.Call (.Name "super" p0) [] [] p1) (PySem.W.ksEnv d.qual d.scope L fI (.ref cda) cc))
        standAt apos.atName
        let (f, first) ← holding [ov] (getMethod ov "__init__" pl)
        callWith cpos f first (backTo cpos (starEach [.Name x pn] (PySem.W.ksEnv d.qual d.scope L fI (.ref cda) cc))) []))
    (hne : sf ≠ x) (hd1 : (sf == ("__debug__" : Str)) = false) (hd2 : (x == ("__debug__" : Str)) = false)
    (hbind : ∀ (kV doc pm : Value) (an : Option Addr) (cdv ct : Value) (cc : Addr) (us : List Value), us.length = 2 → bindArgs (PySem.W.ksFn d.name d.qual d.params d.body d.scope .none kV doc pm an cdv ct cc) ⟨us, []⟩ = pure ([sf, x].zip us)) :
    ∃ C fI fd, ErrC P K mg c C fI f sf x fd := by
  subst hc
  obtain ⟨oc, od, osl, kV, doc, pm, an, cdv, ct, cc, lk⟩ := ini_ok ho
  unfold errB at h
  simp only [Bool.and_eq_true, decide_eq_true_eq] at h
  obtain ⟨a1, a2, a3, a4, a5, a6, a7, a8, a9, a10, a11, a12, a13, a14, a15⟩ := h
  obtain ⟨cda, ccl, cdd, vs, ccs, file, tf, cl, cld, csl, rfl, b1, b2, b3, b4, b5⟩ := fnAll_ok a6 lk
  refine ⟨_, _, _, { T := ⟨oexB_ok a1, a2, a3, a4, a5⟩, lk := ⟨d.name, d.qual, d.params, d.scope, p0, p1, apos, pn, cpos, pe', ps, p', px, pa, .none, kV, doc, pm, an, ct, cda, cc, oc, ccl, cl, .none, od, cdd, cld, osl, ccs, csl, vs, file, tf, ar, ?_, lk, b1, b2, b3, b4, b5, har, hsf, hk, hco, hge, hnc, hsu, hcl, hl1, hl2, (fun L => hsyn _ _ _ L)⟩, ne := hne, db1 := hd1, db2 := hd2, top := htop, sup := hs, sub := a7, si := a8, ve := a9, opq := a10, no := a11, bind := .all fun us hu => hbind _ _ _ _ _ _ _ us hu, gC := hg, iC := a12, tI := a13, xf := xfB_ok a14, te := a15 }⟩
  rw [hbody]
/-! ### the Hook -/
abbrev AlY : Type := He.AlX × List FnC
/-- what is looked at: what the module's names reach, and the statics -/
def asY (g : Addr → Option Obj) (n : Nat) : List Addr := cStatics :: He.asD g n
def obsK (fa : List He.Fa) (fn : List He.DefD) (tf : List He.Defn) (ex : Frg → Bool) (is : List IniD) (g : Addr → Option Obj) (K : Frg) : AlY := ((He.obsT fa fn [] K, ex K && He.tabsB g tf K), is.map fun d => iniObs K d.cls)
def obsY (n : Nat) (fa : List He.Fa) (fn : List He.DefD) (tf : List He.Defn) (ex : Frg → Bool) (is : List IniD) (g : Addr → Option Obj) : AlY := obsK fa fn tf ex is g (He.frT g (asY g n))
def valY (fn : List He.DefD) (is : List IniD) (w : World) : AlY := (He.valX fn [] w, is.map IniD.val)
theorem saysY_of {as : List Addr} {fa : List He.Fa} {fn : List He.DefD} {tf : List He.Defn} {ex : Frg → Bool} {is : List IniD} {w : World} {h : Heap} (e : obsK fa fn tf ex is h.get? (He.frT h.get? as) = valY fn is w) :
    He.SaysX fa fn [] tf ex w h (He.frT h.get? as) ∧ is.map (fun d => iniObs (He.frT h.get? as) d.cls) = is.map IniD.val := by
  have e0 : (He.obsT fa fn [] (He.frT h.get? as), ex (He.frT h.get? as) && He.tabsB h.get? tf (He.frT h.get? as)) = He.valX fn [] w := congrArg (fun z : AlY => z.1) e
  have e1 : He.obsT fa fn [] (He.frT h.get? as) = He.valT fn [] w := congrArg (fun z : He.AlX => z.1) e0
  have e2 : (ex (He.frT h.get? as) && He.tabsB h.get? tf (He.frT h.get? as)) = true := congrArg (fun z : He.AlX => z.2) e0
  obtain ⟨h1, h2⟩ := He.ba e2
  have key : ∀ p ∈ tf, PySem.W.codeHdIn (He.frT h.get? as) (He.cT (He.frT h.get? as) p).1 (He.cT (He.frT h.get? as) p).2 = true ∧ ∃ o, h.get? (He.cT (He.frT h.get? as) p).2 = some o ∧ He.emptyTab o = true := fun p hp => by
    obtain ⟨h3, h4⟩ := He.ba (List.all_eq_true.mp h2 p hp)
    refine ⟨h3, ?_⟩
    cases q : h.get? (He.cT (He.frT h.get? as) p).2 with
    | none =>
      rw [q] at h4
      cases h4
    | some o =>
      rw [q] at h4
      exact ⟨o, rfl, h4⟩
  refine ⟨⟨e1, h1, fun p hp => (key p hp).1, fun p hp => ?_, fun p hp => ?_⟩, congrArg (fun z : AlY => z.2) e⟩
  · obtain ⟨_, o, q, z⟩ := key p hp
    exact He.frT_none q z
  · obtain ⟨_, o, q, z⟩ := key p hp
    rw [q, He.emptyTab_eq z]
def hookY (n : Nat) (fa : List He.Fa) (fn : List He.DefD) (tf : List He.Defn) (ex : Frg → Bool) (is : List IniD) : PySem.W.Hook where
  α := AlY
  obs := fun s => obsY n fa fn tf ex is s.heap.get?
  val := fun w => valY fn is w
  says := fun w h => ∃ K : PySem.W.Frag, K.In h ∧ He.SaysX fa fn [] tf ex w h K ∧ is.map (fun d => iniObs K d.cls) = is.map IniD.val
  of := fun _ _ e => ⟨_, He.frT_in, saysY_of e⟩
  keeps := fun _ _ _ ⟨K, hK, c, i⟩ k => ⟨K, PySem.W.Frag.In.keeps hK k, ⟨c.t, c.more, c.hd, c.out, fun p hp => k _ _ (c.empty p hp)⟩, i⟩
theorem obsY_eq {n : Nat} {fa : List He.Fa} {fn : List He.DefD} {tf : List He.Defn} {ex : Frg → Bool} {is : List IniD} {g : Addr → Option Obj} {s : Shared} (h : ∀ a, g a = s.heap.get? a) : obsY n fa fn tf ex is g = (hookY n fa fn tf ex is).obs s := by
  have e : g = s.heap.get? := funext h
  rw [e] <;> rfl
/-! ### the law's def -/
theorem seq_frozen {K : Frg} {H : Hp} {a : Addr} {xs : List V} (h : SqL K H a xs) : ∃ F : Hp, SqL K F a xs ∧ Same F H ∧ ∀ b ps, F b ≠ some (.tbl ps) := by
  rcases h with h | h
  · refine ⟨fun b => if b = a then H a else none, ?_, fun b u q => ?_, fun b ps q => ?_⟩
    · rcases h with h | ⟨o, h⟩
      · exact .inl (.inl (by show (if a = a then H a else none) = _; rw [if_pos rfl]; exact h))
      · exact .inl (.inr ⟨o, by show (if a = a then H a else none) = _; rw [if_pos rfl]; exact h⟩)
    · by_cases e : b = a
      · have q' : (if b = a then H a else none) = some u := q
        rw [if_pos e] at q'
        rw [e]
        exact q'
      · have q' : (if b = a then H a else none) = some u := q
        rw [if_neg e] at q'
        cases q'
    · have q' : (if b = a then H a else none) = some (.tbl ps) := q
      by_cases e : b = a
      · rw [if_pos e] at q'
        rcases h with h | ⟨o, h⟩ <;> (rw [h] at q'; cases q')
      · rw [if_neg e] at q'
        cases q'
  · exact ⟨fun _ => none, .inr h, fun b u q => (nomatch (show (none : Option HO) = some u from q)), fun b ps q => (nomatch (show (none : Option HO) = some _ from q))⟩
/-- the law's promise from what its function on data tells -/
theorem law_sp {K : Frg} {mg : Str → Option Value} {T : List (Addr × Str)} {G : List SV → RF} {H : Hp} {a : Addr} {ns : List Int} (hS : SqL K H a (ns.map V.int)) (hT : LamX.Tabs T H) (hG : ∃ as, G [.q ns] = .ok (.d (.bool true)) as) :
    spD K mg T 1 G [.ref a] H (fun v _ => v = .bl true) fun _ _ _ => False := by
  obtain ⟨F, h1, h2, h3⟩ := seq_frozen hS
  obtain ⟨as, hG⟩ := hG
  have noO : ∀ {i : Nat} {c : OC}, ([SV.q ns].map some)[i]? = some (some (SV.o c)) → False := fun {i c} h => by
    cases i with
    | zero => cases h
    | succ i => simp at h
  refine ⟨F, fun _ => a, [.q ns], rfl, rfl, ⟨h2, h3, Same.refl _, fun b q => .inl q, Kp.refl _ _ _, hT, rfl, fun i x h => ?_, fun i c h => (noO h).elim, fun i j c c' h _ => (noO h).elim, fun _ _ => rfl, fun i c _ h => (noO h).elim, fun b ⟨i, c, h, _⟩ => (noO h).elim⟩, ?_⟩
  · cases i with
    | zero =>
      cases h
      exact ⟨.ref a, rfl, a, rfl, h1⟩
    | succ i => simp at h
  · rw [hG]
    intro v F' A' H' σ' δ' _ _ _ rv
    have r : Rp K F' (.bool true) v := rv
    cases r
    rfl
end DL
set_option Elab.async false
set_option linter.all false
set_option maxRecDepth 100000
set_option maxHeartbeats 4000000
namespace DL
open PySem PySem.Spec PyProof.Rows L2
/-! ### sorted(set(t)), t a tuple of ints -/
def insS (x : Int) : List Int → List Int
  | [] => [x]
  | y :: ys => if x < y then x :: y :: ys else if x = y then y :: ys else y :: insS x ys
def sortSet : List Int → List Int
  | [] => []
  | x :: xs => insS x (sortSet xs)
theorem insS_mem (x z : Int) : ∀ l : List Int, z ∈ insS x l ↔ z = x ∨ z ∈ l
  | [] => by simp [insS]
  | y :: ys => by
    unfold insS
    split
    · simp
    · split
      · rename_i e
        subst e
        simp
      · rw [List.mem_cons, insS_mem x z ys, List.mem_cons]
        constructor
        · rintro (h | h | h) <;> simp [h]
        · rintro (h | h | h) <;> simp [h]
theorem sortSet_mem (z : Int) : ∀ l : List Int, z ∈ sortSet l ↔ z ∈ l
  | [] => by simp [sortSet]
  | y :: ys => by
    unfold sortSet
    rw [insS_mem, sortSet_mem z ys, List.mem_cons]
theorem insS_pw (x : Int) : ∀ {l : List Int}, l.Pairwise (· < ·) → (insS x l).Pairwise (· < ·)
  | [], _ => by simp [insS]
  | y :: ys, h => by
    obtain ⟨h1, h2⟩ := List.pairwise_cons.mp h
    unfold insS
    split
    · rename_i e
      refine List.pairwise_cons.mpr ⟨fun z hz => ?_, h⟩
      rcases List.mem_cons.mp hz with rfl | hz
      · exact e
      · have := h1 z hz
        omega
    · split
      · exact h
      · refine List.pairwise_cons.mpr ⟨fun z hz => ?_, insS_pw x h2⟩
        rcases (insS_mem x z ys).mp hz with rfl | hz
        · omega
        · exact h1 z hz
theorem sortSet_pw : ∀ l : List Int, (sortSet l).Pairwise (· < ·)
  | [] => .nil
  | x :: xs => insS_pw x (sortSet_pw xs)
theorem pw_unique : ∀ {l l' : List Int}, l.Pairwise (· < ·) → l'.Pairwise (· < ·) → (∀ z, z ∈ l ↔ z ∈ l') → l = l'
  | [], [], _, _, _ => rfl
  | [], y :: ys, _, _, h => by simpa using (h y).mpr (by simp)
  | x :: xs, [], _, _, h => by simpa using (h x).mp (by simp)
  | x :: xs, y :: ys, h1, h2, h => by
    obtain ⟨a1, a2⟩ := List.pairwise_cons.mp h1
    obtain ⟨b1, b2⟩ := List.pairwise_cons.mp h2
    have e : x = y := by
      rcases List.mem_cons.mp ((h x).mp (by simp)) with z | z
      · exact z
      · rcases List.mem_cons.mp ((h y).mpr (by simp)) with w | w
        · exact w.symm
        · have p := b1 x z
          have q := a1 y w
          omega
    subst e
    rw [pw_unique a2 b2 fun z => ?_]
    constructor
    · intro hz
      rcases List.mem_cons.mp ((h z).mp (by simp [hz])) with w | w
      · have := a1 z hz
        omega
      · exact w
    · intro hz
      rcases List.mem_cons.mp ((h z).mpr (by simp [hz])) with w | w
      · have := b1 z hz
        omega
      · exact w
def cSortSet : D → Option OC
  | .tuple xs => (intsOf xs).bind fun ns => if ns.length < 60 + 4 then some (.l ((sortSet ns).map .int)) else none
  | _ => none
def tSortSet (K : Frg) (ta : TE) : TE := fun σ H Q => ta σ H fun x H1 => ∃ (l : Addr) (ns : List Int), x = V.ref l ∧ SqT K H1 l (ns.map V.int) ∧ ns.length < 64 ∧ ∀ p, H1 p = none → Q (.ref p) (upd H1 p (.lst ((sortSet ns).map V.int)))
theorem ints_vals : ∀ {out : List Value} {ns : List Int}, IntsAre out ns → Vals (ns.map V.int) out
  | _, _, .nil => .nil
  | _, _, .cons _ t h => .cons ⟨t, rfl⟩ (ints_vals h)
section
variable {X : Cx} {S : Sx} {W : WX} {a e : Expr} {ga : SS → R D}
theorem pe_sortSet {ta : TE} {p p2 q pos : Pos} (hc : X.calm = true) (hg : Gl X "sorted") (hm : X.mg "sorted" = none) (hg2 : Gl X "set") (hm2 : X.mg "set" = none) (ha : PE X a ta)
    (na : starEach [a] X.env = (false, eval a X.env) :: starEach [] X.env := by rfl) : PE X (.Call (.Name "sorted" p) [.Call (.Name "set" p2) [a] [] q] [] pos) (tSortSet X.K ta) := by
  refine ⟨fun pins s σ H Q I h => ?_⟩
  refine Call_ (ld_blt I hg hm PyProof.Rows.boot_sorted (PyProof.Rows.callWith_builtin1 (PyProof.Rows.args_cons ?_ rfl) rfl rfl))
  refine Call_ (ld_blt I hg2 hm2 PyProof.Rows.boot_set (PyProof.Rows.callWith_type1 (PyProof.Rows.args_cons (thn (ha.run pins s σ H _ I h) fun v s1 ⟨x, H1, I1, r1, q1⟩ => PyProof.Rows.args_nil ?_) na) na rfl))
  obtain ⟨l, ns, rfl, hq, hn, q1⟩ := q1
  cases r1
  obtain ⟨its, r, pl, hz⟩ := I1.tuple hq
  refine call_set_tupI ns (I1.ok.hd hc) pl (by simpa using r.ints) (by unfold scanBound; omega) fun h' tk c hS hcn hk => ?_
  have I2 : Inv X pins σ H1 { s1 with heap := h', toks := tk } := I1.kept hk
  refine PyProof.Rows.args_nil (sorted_set hS (I2.ok.hd hc) (by omega) fun s' p out c2 ns' k g o hp hg' hi hpw hmem hlen => ?_)
  have en : ns' = sortSet ns := pw_unique hpw (sortSet_pw ns) fun z => by
    rw [hmem z, sortSet_mem]
    simp
  have hnp : H1 p = none := I2.hok.fresh hp
  have hv : Vals (ns'.map V.int) out.toList := ints_vals hi
  have hll : (ns'.map V.int).length ≤ sizeLine := by
    rw [List.length_map, hlen, sizeLine_eq]
    omega
  have J : Inv X pins σ (upd H1 p (.lst (ns'.map V.int))) { { s1 with heap := h', toks := tk } with heap := s'.heap, gens := s'.gens, drawn := s'.drawn, toks := s'.toks } :=
    I2.call (ch := []) (Un.laid k hp hnp) (I2.hok.laid k hp ⟨hll, out.toList, c2, hv, hg'⟩) (by rw [g]; exact I2.bare) (fun _ z => nomatch z)
  have e : s' = { { s1 with heap := h', toks := tk } with heap := s'.heap, gens := s'.gens, drawn := s'.drawn, toks := s'.toks } := by
    cases s'
    cases s1
    cases o
    rfl
  rw [e]
  rw [en] at J
  exact ⟨.ref p, _, J, rfl, q1 p hnp⟩
theorem eo_sortSet {p p2 q pos : Pos} (h : EV X S W a ga) (hc : X.calm = true) (hm : X.mg "sorted" = none) (hm2 : X.mg "set" = none) (hg : Gl X "sorted" := by rfl) (hg2 : Gl X "set" := by rfl)
    (na : starEach [a] X.env = (false, eval a X.env) :: starEach [] X.env := by rfl) : EO X S W (.Call (.Name "sorted" p) [.Call (.Name "set" p2) [a] [] q] [] pos) (gUnN cSortSet ga) := by
  obtain ⟨t, pe, qe⟩ := h
  refine ⟨_, pe_sortSet hc hg hm hg2 hm2 pe na, fun Y A σ H δ F Q Rl h => qe _ _ _ _ _ _ _ Rl (Run.bind h fun x δ1 v H1 F1 _ R1 s1 rx h1 => ?_)⟩
  obtain ⟨c, ec, q⟩ := Run.opt h1
  cases rx with
  | @tup ad xs ds hx r =>
    have ec0 : ((intsOf ds).bind fun ns => if ns.length < 60 + 4 then some (OC.l ((sortSet ns).map .int)) else none) = some c := ec
    cases ei : intsOf ds with
    | none =>
      rw [ei] at ec0
      cases ec0
    | some ns =>
      rw [ei] at ec0
      have ec' : (if ns.length < 60 + 4 then some (OC.l ((sortSet ns).map .int)) else none) = some c := ec0
      by_cases hl : ns.length < 60 + 4
      · rw [if_pos hl] at ec'
        cases ec'
        have e1 := intsOf_eq ei
        subst e1
        have e2 := r.ints
        subst e2
        refine ⟨ad, ns, rfl, sqt_same R1.sub hx, hl, fun p hp => ?_⟩
        obtain ⟨a1, a2⟩ := rp_lst_new R1 (Rps.of_ints (sortSet ns)) hp
        exact q _ _ _ a1 (Same.refl _) a2
      · rw [if_neg hl] at ec'
        cases ec'
  | _ => cases ec
/-! ### t[::-1] of a tuple -/
theorem rev_pick (xs : Array Value) : ((List.range xs.size).filterMap fun (m : Nat) => xs[(((xs.size : Int) - 1) + (m : Int) * (-1)).toNat]?).toArray = xs.toList.reverse.toArray := by
  have e : (fun (m : Nat) => xs[(((xs.size : Int) - 1) + (m : Int) * (-1)).toNat]?) = fun m => xs[xs.size - 1 - m]? := by
    funext m
    have : (((xs.size : Int) - 1) + (m : Int) * (-1)).toNat = xs.size - 1 - m := by omega
    rw [this]
  have e2 : ((List.range xs.size).filterMap fun m => xs[xs.size - 1 - m]?) = ((List.range xs.size).map fun k => xs.size - 1 - k).filterMap (xs[·]?) := by
    rw [List.filterMap_map] <;> rfl
  rw [e, e2, PySem.W.krv_range, List.filterMap_reverse, PySem.W.krv_all]
theorem getItem_tuple_rev {prog : Program} {w : World} {A : Around} {E : Value → Shared → Prop} {s : Shared} {t sl : Addr} {items : Array Value} {vl vu vs : Value} {Q : Value → Shared → Prop} (ht : IsTup s.heap t items) (hs : s.heap.IsSliceOf sl vl vu vs) (pl : IsPart vl none) (pu : IsPart vu none) (ps : IsPart vs (some (-1)))
    (h : Q (.ref s.heap.objs.size) { s with heap := s.heap.push { cls := .type "tuple", data := .seq items.toList.reverse.toArray } }) (hsz : items.size ≤ sizeLine) : wpAny (model prog w) A (getItem (.ref t) (.ref sl)) Q E s := by
  have htake : sizeOk (.seq items.toList.reverse.toArray) := by
    show items.toList.reverse.toArray.size ≤ sizeLine
    rw [List.size_toArray, List.length_reverse, Array.length_toList]
    exact hsz
  obtain ⟨os, hos, hcs, hds⟩ := id hs
  have hTs : s.TypeIs (.ref sl) "slice" := ⟨os, hos, hcs⟩
  unfold getItem
  try with_reducible refine wpAny_holding ?_
  first | refine wpAny_bind (wpAny_pure ?_) | skip
  refine wpAny_bind (wpAny_sequenceKey ht.typeIs (by decide) (wpAny_bind (wpAny_callSpecial?_slot (name := Str.ofString "__getitem__") ht.typeIs PyProof.Rows.slot_tuple_getitem
    (wpAny_call_entry PyProof.Rows.slot_tuple_getitem ht.typeIs PyProof.Rows.entry_tuple_getitem ?_ (PyProof.Rows.args_tuple_getitem _ _)))))
  show wpAny _ _ (Builtin.Tuple.tupleItemsOf (.ref t) >>= _) _ _ s
  refine wpAny_bind (PyProof.Rows.tupleItemsOf_ ht (wpAny_bind (wpAny_typeOf hTs ?_)))
  rw [if_pos (by decide)]
  have hap : ∀ {A' : Around} {E' : Value → Shared → Prop} {Q' : Int × Int × Nat → Shared → Prop}, Q' ((items.size : Int) - 1, -1, items.size) s → wpAny (model prog w) A' (Builtin.Slice.sliceApplied (.ref sl) (pure (items.size : Int))) Q' E' s := fun {A' E' Q'} q => by
    unfold Builtin.Slice.sliceApplied Builtin.Slice.sliceFields
    refine wpAny_bind (wpAny_bind (wpAny_field hos hds (x := vl) rfl (wpAny_bind (wpAny_field hos hds (x := vu) rfl (wpAny_bind (wpAny_field hos hds (x := vs) rfl (wpAny_pure (wpAny_bind (HT.slicePart_ ps ?_)))))))))
    show wpAny _ _ (if ((-1 : Int) == 0) = true then _ else _) _ _ s
    rw [if_neg (by decide)]
    refine wpAny_bind (HT.slicePart_ pl (wpAny_bind (HT.slicePart_ pu (wpAny_bind (wpAny_pure ?_)))))
    have e3 : Builtin.Slice.slicePlaces ((items.size : Int) - 1) (-1) (-1) = items.size := by
      unfold Builtin.Slice.slicePlaces
      rw [if_neg (by decide)]
      by_cases hz : ((items.size : Int) - 1) > -1
      · rw [if_pos hz, show (-(-1 : Int)) = 1 by decide, Int.ediv_one]
        omega
      · rw [if_neg hz]
        omega
    show wpAny _ _ (pure (((items.size : Int) - 1), (-1 : Int), Builtin.Slice.slicePlaces ((items.size : Int) - 1) (-1) (-1))) _ _ s
    rw [e3]
    exact wpAny_pure q
  refine wpAny_bind (hap ?_)
  have hno : ¬ ((((items.size : Int) - 1) == 0 && (-1 : Int) == 1 && items.size == items.size) = true) := by
    rw [show ((-1 : Int) == 1) = false by decide, Bool.and_false, Bool.false_and]
    exact Bool.false_ne_true
  show wpAny _ _ (if (((items.size : Int) - 1) == 0 && (-1 : Int) == 1 && items.size == items.size) = true then _ else _) _ _ s
  rw [if_neg hno, rev_pick]
  first
    | exact wpAny_bind (m := Builtin.Tuple.tupleExact _) (wpAny_newObj_type (wpAny_pure ⟨_, rfl, wpAny_pure h⟩) htake)
    | exact wpAny_bind (m := Builtin.Tuple.tupleExact _) (wpAny_newObj_type (wpAny_bind (wpAny_pure (wpAny_pure ⟨_, rfl, wpAny_pure h⟩))) htake)
    | exact wpAny_bind (wpAny_bind (m := Builtin.Tuple.tupleExact _) (wpAny_newObj_type (wpAny_pure (wpAny_pure ⟨_, rfl, wpAny_pure h⟩)) htake))
    | exact wpAny_bind (wpAny_bind (m := Builtin.Tuple.tupleExact _) (wpAny_newObj_type (wpAny_pure ⟨_, rfl, wpAny_pure h⟩) htake))
def tRevT (K : Frg) (te : TE) : TE := fun σ H Q => te σ H fun x H1 => ∃ a xs, x = .ref a ∧ SqT K H1 a xs ∧ ∀ p, H1 p = none → Q (.ref p) (upd H1 p (.tup xs.reverse))
theorem pe_revT {te : TE} {k : Nat} {p1 p2 p3 pos : Pos} (he : PE X e te) : PE X (.Subscript e (.Slice none none (some (.UnaryOp .USub (.Constant (.int 1) k p1) p2)) p3) pos) (tRevT X.K te) := by
  refine ⟨fun pins s σ H Q I h => Subscript_ (thn (he.run pins s σ H _ I h) fun v s1 ⟨x, H1, I1, r1, q1⟩ => ?_)⟩
  obtain ⟨a, xs, ex, hx, q⟩ := q1
  subst ex
  cases r1
  have hst : PO X (some (.UnaryOp .USub (.Constant (.int 1) k p1) p2)) (tPart (tUn (rU fun i => .int (-i)) (tC (.int 1)))) := po_some (pe_un un_neg pe_int)
  refine wpAny_Slice (thn (po_none.run pins s1 σ H1 (fun o H2 => o = none ∧ H2 = H1) I1 ⟨rfl, rfl⟩) fun vl s2 ⟨l, H2, I2, pl, el, e2⟩ => ?_)
  subst el e2
  refine thn (po_none.run pins s2 σ H2 (fun o H3 => o = none ∧ H3 = H2) I2 ⟨rfl, rfl⟩) fun vu s3 ⟨u, H3, I3, pu, eu, e3⟩ => ?_
  subst eu e3
  refine thn (hst.run pins s3 σ H3 (fun o H4 => o = some (-1) ∧ H4 = H3) I3 ⟨1, rfl, -1, rfl, rfl, rfl⟩) fun vs s4 ⟨o, H4, I4, ps, eo, e4⟩ => ?_
  subst eo e4
  have I5 : Inv X pins σ H4 { s4 with heap := s4.heap.push { cls := .type "slice", data := .fields #[vl, vu, vs] } } := I4.kept (t' := s4.toks) fun b ob q => Heap.get?_push_of_some _ q
  obtain ⟨its, r, ht, hz⟩ := I5.tuple hx
  have hlen := r.length
  show wpAny (model X.prog X.w) X.A (subscriptTail e (.Slice none none (some (.UnaryOp .USub (.Constant (.int 1) k p1) p2)) p3) (.ref a) (.ref s4.heap.objs.size)) (L2.EP X pins σ Q) X.xe { s4 with heap := s4.heap.push { cls := .type "slice", data := .fields #[vl, vu, vs] } }
  refine tail_any (ops := [.ref a, .ref s4.heap.objs.size]) ht.typeIs (PyProof.Rows.slot_tuple_getitem.lookup) ?_ (by with_unfolding_all rfl)
  refine getItem_tuple_rev ht (Heap.IsSliceOf.new _ vl vu vs) pl pu ps ?_ (by rw [List.size_toArray]; omega)
  refine ⟨.ref _, _, I5.laid (t' := s4.toks) (o := .tup xs.reverse) (fun b ob q => Heap.get?_push_of_some _ q) (Nat.le_refl _) ?_, rfl, q _ (I5.hok.fresh (Nat.le_refl _))⟩
  exact ⟨by rw [List.length_reverse]; exact hz, _, r.reverse, IsTup.new _ _⟩
@[simp] def dRevT : D → Option D
  | .tuple xs => some (.tuple xs.reverse)
  | _ => none
theorem ev_revT {k : Nat} {p1 p2 p3 pos : Pos} (h : EV X S W e ga) : EV X S W (.Subscript e (.Slice none none (some (.UnaryOp .USub (.Constant (.int 1) k p1) p2)) p3) pos) (gUn dRevT ga) := by
  obtain ⟨t, pe, qe⟩ := h
  refine ⟨_, pe_revT pe, fun Y A σ H δ F Q Rl h => qe _ _ _ _ _ _ _ Rl (Run.bind h fun x δ1 v H1 F1 _ R1 s1 rx h1 => ?_)⟩
  obtain ⟨c, ec, q⟩ := Run.opt h1
  cases rx with
  | tup hx r =>
    cases ec
    refine ⟨_, _, rfl, sqt_same R1.sub hx, fun p hp => ?_⟩
    obtain ⟨b1, b2, b3⟩ := rp_tup_lay R1 r.reverse hp
    exact q _ _ _ b1 b2 b3
  | _ => cases ec
/-! ### enumerate(t), t a tuple -/
def IteT (K : Frg) (a : Addr) : It :=
  ⟨fun i H => ∃ (xs : List V) (x : V), SqT K H a xs ∧ xs[i]? = some x, fun i H v H' => ∃ T x, v = .ref T ∧ H T = none ∧ H' = upd H T (.tup [.int (i : Nat), x]) ∧ ∀ xs, SqT K H a xs → xs[i]? = some x, fun i H => ∃ xs : List V, SqT K H a xs ∧ xs.length ≤ i⟩
theorem tup_is {h : Heap} {a : Addr} {its : Array Value} (x : IsTup h a its) : h.IsTuple a its := x
theorem turn_enumT {P : Program} {w : World} {K : Frg} {elts : List Expr} {kk : Nat} {tpos : Pos} {a e it : Addr} (hai : a ≠ it) (hae : a ≠ e) :
    Turn P w K (.Tuple elts kk tpos) (IteT K a) [e, it] e (fun i h => (∃ old, IsEnum h e it ((i : Nat) : Int) old) ∧ h.IsTupleIter it a i ∧ e ≠ it) where
  mem := by simp
  obj := fun i h st b hb => by
    obtain ⟨⟨old, he⟩, ⟨o, ho, hc, hd⟩, _⟩ := st
    have e' : b = e ∨ b = it := by simpa using hb
    rcases e' with z | z
    · exact ⟨_, z ▸ he, fun v q => (nomatch (show Data.fields _ = Data.cell v from q))⟩
    · exact ⟨o, z ▸ ho, fun v q => by rw [hd] at q; cases q⟩
  keep := fun i h h' st k => let ⟨⟨old, he⟩, hi, hne⟩ := st; ⟨⟨old, k e (by simp) _ he⟩, hi.at fun o q => k it (by simp) o q, hne⟩
  item := by
    intro X hP hw hK hc i pins s σ H E I hf st hg
    subst hP hw hK
    obtain ⟨⟨old, he⟩, hit, hne⟩ := st
    obtain ⟨xs, x, hq, hx⟩ := hg
    obtain ⟨its, rv, p, hz⟩ := I.tuple hq
    obtain ⟨u, hu, ru⟩ := rv.get hx
    have hel : e < s.heap.objs.size := Heap.lt_size he
    have hil : it < s.heap.objs.size := by obtain ⟨_, q, _⟩ := hit; exact Heap.lt_size q
    have hi : i < its.toArray.size := by
      rw [List.size_toArray]
      exact (List.getElem?_eq_some_iff.mp hu).1
    have Dr := Draws.tuple (prog := X.prog) (w := X.w) (A := X.A.in1) (by rw [show X.A.in1.handled = X.A.handled from rfl]; exact I.ok.hd hc) it a hai its.toArray
    refine wpAny_pyNext_enum_itemD Dr he ⟨hit, tup_is p⟩ hi hne (by simp [hne, Ne.symm hae]) fun x' h' tk hP ho hst' hT hsz hk => ?_
    have ex : x' = u := by
      have hP' : its.toArray[i]? = some x' := hP
      rw [List.getElem?_toArray, hu] at hP'
      exact (Option.some.inj hP').symm
    subst ex
    refine ⟨_, rfl, wpAny_letOwnedTupleGo_enum (s := { s with heap := h', toks := tk + 1 }) ho fun h'' he' sb => ?_⟩
    have hT2 : h''.get? s.heap.objs.size = some { cls := .type "tuple", data := .seq #[.int i tk, x'] } := (sb.2 _ (Nat.ne_of_gt hel)).trans hT
    have new : ObjOk X.prog X.w (upd H s.heap.objs.size (.tup [.int (i : Nat), x])) h'' s.heap.objs.size (.tup [.int (i : Nat), x]) :=
      ⟨by show 2 ≤ sizeLine; decide, [.int i tk, x'], .cons ⟨_, rfl⟩ (.cons ru .nil), ⟨_, hT2, rfl, _, rfl⟩⟩
    have I1 : Inv X pins σ (upd H s.heap.objs.size (.tup [.int (i : Nat), x])) { s with heap := h'', toks := tk + 1 } :=
      I.turnedNew (ch := [e, it]) (fun b ob hb q => (sb.2 b (fun z => hb (by simp [z]))).trans (hk b ob (fun z => hb (by simp [z])) (fun z => hb (by simp [z])) q)) hf (Nat.le_refl _) new
    refine ⟨.ref s.heap.objs.size, _, I1, rfl, ⟨_, x, rfl, I.hok.fresh (Nat.le_refl _), rfl, fun ys hy => by rw [I.tuple_inj hy hq]; exact hx⟩, ⟨⟨x', ?_⟩, hst'.1.at fun o q => (sb.2 it (Ne.symm hne)).trans q, hne⟩, fun b hb => ?_⟩
    · rw [show ((i + 1 : Nat) : Int) = (i : Int) + 1 by omega]
      exact he'
    · have hb' : b < s.heap.objs.size := by
        have e' : b = e ∨ b = it := by simpa using hb
        rcases e' with z | z
        · exact z ▸ hel
        · exact z ▸ hil
      rw [upd_ne (Nat.ne_of_lt hb')]
      exact (hf b hb).1
  done := by
    intro X hP hw hK hc i pins s σ H E I hf st hg
    subst hP hw hK
    obtain ⟨⟨old, he⟩, hit, hne⟩ := st
    obtain ⟨xs, hq, hx⟩ := hg
    obtain ⟨its, rv, p, hz⟩ := I.tuple hq
    obtain ⟨f0, f1, f2, f3, f4, f5⟩ := hf it (by simp)
    have hl := rv.length
    have Dr : Draws X.prog X.w X.A.in1 it [it, a] i (fun _ _ => True) (fun j h => j = i ∧ h.IsTupleIter it a i ∧ h.IsTuple a its.toArray) :=
      { live := fun _ _ st => let ⟨o, ho, _⟩ := st.2.1; ⟨o, ho⟩
        frame := fun _ _ _ st hk => ⟨st.1, st.2.1.at fun o e => hk it (by simp) o e, st.2.2.at fun o e => hk a (by simp) o e⟩
        item := fun j s Q E hlt st => absurd st.1 (Nat.ne_of_lt hlt)
        done := fun s Q E st hE => wpAny_nextOf_tuple_end (by rw [show X.A.in1.handled = X.A.handled from rfl]; exact I.ok.hd hc) st.2.1 st.2.2 (by simp; omega) hE }
    exact wpAny_pyNext_enum_endD Dr he ⟨rfl, hit, tup_is p⟩ fun h' eb => ⟨rfl, I.turned (t' := s.toks) (fun b o hb q => eb b o hb q) f0 f1 f3 f4 f5⟩
  self := fun A i s Q E st h => let ⟨⟨_, he⟩, _⟩ := st; wpAny_pyIter_enum he h
theorem meets_enumT (l : Addr) (items : Array Value) :
    Meets (Builtin.«enumerate.__new__» ⟨[.type "enumerate", .ref l], []⟩) (fun _ R s => s.heap.IsTuple l items ∧
      R (.ok (.ret (.ref (s.heap.push { cls := .type "tuple_iterator", data := .fields #[.ref l, .int 0 0] }).objs.size))) { s with heap := (s.heap.push { cls := .type "tuple_iterator", data := .fields #[.ref l, .int 0 0] }).push { cls := .type "enumerate", data := .fields #[.none, .bool false, .ref s.heap.objs.size, rawInt 0, .none, .none] } }) :=
  .of_wp fun prog w A R s h => by
    obtain ⟨hp, g, d, tk, os⟩ := s
    obtain ⟨h1, h⟩ := h
    have hsub := sub_enumerate
    have q1 : ∀ {A' : Around} {E : Value → Shared → Prop} {Q : Value → Shared → Prop}, Q (.ref hp.objs.size) ⟨hp.push { cls := .type "tuple_iterator", data := .fields #[.ref l, .int 0 0] }, g, d, tk, os⟩ → wpAny (model prog w) A' (pyIter (.ref l)) Q E ⟨hp, g, d, tk, os⟩ :=
      fun q => (begins_tuple l items).iter prog w _ _ ⟨hp, g, d, tk, os⟩ _ h1 q
    wp_walk using q1
    refine wpAny_stack_any fun st => wpAny_pure ?_
    split
    · rename_i c _ _ _ _ _
      cases (c == Value.type "enumerate") <;> (wp_walk using q1; exact ⟨_, rfl, h⟩)
    · wp_walk using q1
      exact ⟨_, rfl, h⟩
theorem call_enumT {prog : Program} {w : World} {A : Around} {E : Value → Shared → Prop} {s : Shared} {l : Addr} {items : Array Value} {Q : Value → Shared → Prop} (hL : s.heap.IsTuple l items)
    (h : ∀ h', IsEnum h' (s.heap.objs.size + 1) s.heap.objs.size 0 .none → h'.IsTupleIter s.heap.objs.size l 0 → h'.objs.size = s.heap.objs.size + 2 →
      (∀ b o, s.heap.get? b = some o → h'.get? b = some o) → Q (.ref (s.heap.objs.size + 1)) { s with heap := h' }) : wpAny (model prog w) A (call (.type "enumerate") [.ref l]) Q E s := by
  refine callType_new F.called_enumerate (by decide) (F.typeCall_enumerate_1 _) (F.newCall_enumerate_1 _) (fun obj => F.args_object_init_2 obj _) F.entry_enumerate_new (meets_enumT l items) ⟨hL, ?_⟩
  have hz : (s.heap.push { cls := .type "tuple_iterator", data := .fields #[.ref l, .int 0 0] }).objs.size = s.heap.objs.size + 1 := Heap.size_push ..
  show _ ∧ _
  rw [hz]
  have he : IsEnum ((s.heap.push { cls := .type "tuple_iterator", data := .fields #[.ref l, .int 0 0] }).push { cls := .type "enumerate", data := .fields #[.none, .bool false, .ref s.heap.objs.size, rawInt 0, .none, .none] }) (s.heap.objs.size + 1) s.heap.objs.size 0 .none := by
    have z := Heap.get?_push_size (s.heap.push { cls := .type "tuple_iterator", data := .fields #[.ref l, .int 0 0] }) (o := { cls := .type "enumerate", data := .fields #[.none, .bool false, .ref s.heap.objs.size, rawInt 0, .none, .none] }) rfl
    rw [hz] at z
    exact z
  exact ⟨⟨_, he, rfl⟩, h _ he ⟨_, Heap.get?_push_of_some _ (Heap.get?_push_size _ rfl), rfl, rfl⟩ (by rw [Heap.size_push, hz]) fun b o x => Heap.get?_push_of_some _ (Heap.get?_push_of_some _ x)⟩
def iEnumT (K : Frg) (ta : TA) : TI := fun σ H R => ta σ H fun vs H1 => ∃ a xs, vs = [.ref a] ∧ SqT K H1 a xs ∧ R (IteT K a) H1
theorem pi_enumT {ta : TA} {p pos tpos : Pos} {elts : List Expr} {kk : Nat} (hg : Gl X "enumerate") (hm : X.mg "enumerate" = none) (ha : PA X [e] ta) (hs : starEach [e] X.env = [(false, eval e X.env)] := by rfl) :
    PI X (.Tuple elts kk tpos) (.Call (.Name "enumerate" p) [e] [] pos) (iEnumT X.K ta) := by
  refine ⟨fun pins s σ H R I h => Call_ (ld_blt I hg hm boot_enumerate (PyProof.Rows.callWith_type1 (thn (ha.run pos pins s σ H _ I h) fun us s1 ⟨vs, H1, I1, r1, q1⟩ => ?_) hs rfl))⟩
  obtain ⟨a, xs, ex, hq, q⟩ := q1
  subst ex
  cases r1 with
  | cons r rr =>
    cases rr
    cases r
    obtain ⟨its, rv, p', hz⟩ := I1.tuple hq
    have hal : a < s1.heap.objs.size := by obtain ⟨_, z, _⟩ := id p'; exact Heap.lt_size z
    refine call_enumT (tup_is p') fun h' he hit hsz hk => wpAny_pyIter_enum he ?_
    have I2 : Inv X pins σ H1 { s1 with heap := h' } := I1.kept (t' := s1.toks) hk
    refine ⟨s1.heap.objs.size + 1, [s1.heap.objs.size + 1, s1.heap.objs.size], _, _, H1, rfl, I2, turn_enumT (Nat.ne_of_lt hal) (Nat.ne_of_lt (Nat.lt_succ_of_lt hal)), ⟨⟨.none, he⟩, hit, Nat.succ_ne_self _⟩, fun b hb => ?_, q⟩
    have e' : b = s1.heap.objs.size + 1 ∨ b = s1.heap.objs.size := by simpa using hb
    have hle : s1.heap.objs.size ≤ b := by
      rcases e' with z | z
      · exact z ▸ Nat.le_add_right _ _
      · exact z ▸ Nat.le_refl _
    exact I1.fpOk hle (I1.hok.fresh hle)
def gEnum (f : D → Option (List D)) (g : SS → R D) : SS → R (List D) := fun δ => (g δ).bind fun x δ1 => match f x with
  | some xs => .ok (enumD xs) δ1
  | none => .bad
@[simp] def asTup : D → Option (List D)
  | .tuple xs => some xs
  | _ => none
theorem iv_enumT {p pos : Pos} {elts : List Expr} {kk : Nat} {tpos : Pos} (h : EV X S W e ga) (hm : X.mg "enumerate" = none) (hg : Gl X "enumerate" := by rfl) (hs : starEach [e] X.env = [(false, eval e X.env)] := by rfl) :
    IV X S W (.Tuple elts kk tpos) (.Call (.Name "enumerate" p) [e] [] pos) (gEnum asTup ga) := by
  obtain ⟨t, pe, q⟩ := h
  refine ⟨_, pi_enumT hg hm (pa_cons pe pa_nil (by rw [hs]; rfl)) hs, fun Y A σ H δ F Q Rl hr => q _ _ _ _ _ _ _ Rl (Run.bind hr fun x δ1 v H1 F1 _ R1 s1 rx h1 => ?_)⟩
  cases rx with
  | tup hx r =>
    refine ⟨_, _, rfl, sqt_same R1.sub hx, h1 _ _ _ R1 (Same.refl _) fun S Y A σ δ H F' i Rl s => ?_⟩
    have k1 : SqT X.K H _ _ := sqt_same (s.trans Rl.sub) hx
    refine ⟨fun d hd => ?_, fun hl => ⟨_, k1, ?_⟩⟩
    · obtain ⟨x, g1, rfl⟩ := enum_get hd
      obtain ⟨v, h3, h4⟩ := r.get g1
      refine ⟨⟨_, _, k1, h3⟩, fun w H' ⟨T, x', e1, e2, e3, e4⟩ => ?_⟩
      subst e1 e3
      have z1 := e4 _ k1
      rw [h3] at z1
      cases z1
      exact pair_lay Rl (.cons (.int _) (.cons (h4.mono s) .nil)) e2
    · rw [r.length]
      simpa [enumD] using hl
  | _ => exact h1.elim
/-- an own object is frozen ahead of a statement -/
def gFrz (i : Nat) (g : SS → R Fl) : SS → R Fl := fun δ => match δ[i]? with
  | some (some (.o c)) => g (δ.set i (some (.d c.toD)))
  | _ => .bad
theorem st_frz (i : Nat) {st : Stmt} {g : SS → R Fl} (h : ST X S W st g) (hp : S.np ≤ i := by exact Nat.le_of_ble_eq_true rfl) : ST X S W st (gFrz i g) := by
  obtain ⟨t, p, q⟩ := h
  refine ⟨t, p, fun Y A σ H δ F E hl Rl h => ?_⟩
  unfold gFrz at h
  split at h
  · rename_i c e
    obtain ⟨F', R1, s1⟩ := Rl.frz e hp
    exact q _ _ _ _ _ _ _ hl R1 (RunS.weak h s1)
  · exact h.elim
def gScrLen (i : Nat) : SS → R D := fun δ => (gScr i δ).bind fun ns δ1 => .ok (.int ns.length) δ1
def gEnumL (g : SS → R D) : SS → R (List D) := fun δ => (gItL g δ).bind fun xs δ1 => .ok (enumD xs) δ1
def gScrSl (i : Nat) (gl gh : SS → R (Option Int)) : SS → R OC := gSl cSlL (fun δ => (gScr i δ).bind fun ns δ1 => .ok (.list (ns.map .int)) δ1) gl gh
/-- a look at a block's names -/
def blkB (N : List Str) (sc scope : Scope) (own : List (Str × Nat)) : Bool :=
  decide (scope.kind = .function) && (scope.names.all (fun y => decide (scope.names.lookup y.1 = some y.2)) && (own.all (fun p => decide (N[p.2]? = some p.1)) && (scope.names.all (fun y => !decide (y.2 = .free) || (decide (sc.names.lookup y.1 = some .cell) || decide (sc.names.lookup y.1 = some .free))) &&
  scope.names.all fun y => !(decide (y.2 = .local) || decide (y.2 = .cell)) || ((own.map (·.1)).contains y.1 || !N.contains y.1))))
theorem blk_by {N : List Str} {sc scope : Scope} {own : List (Str × Nat)} (h : blkB N sc scope own = true) : BlkOk N sc scope own := by
  unfold blkB at h
  simp only [Bool.and_eq_true, decide_eq_true_eq, List.all_eq_true] at h
  obtain ⟨h1, h2, h3, h4, h5⟩ := h
  refine ⟨h1, h2, h3, fun y hy e => ?_, fun y hy e => ?_⟩
  · have z := h4 y hy
    rw [e] at z
    simpa using z
  · have z := h5 y hy
    rcases e with e | e <;> (rw [e] at z; simpa [Bool.or_eq_true] using z)
end
end DL
set_option Elab.async false
set_option linter.all false
set_option maxRecDepth 100000
set_option maxHeartbeats 4000000
namespace DL
open PySem PySem.Spec PyProof.Rows L2
/-! ### the functions on data, computed -/
@[simp] theorem bind_ok {α β : Type} (a : α) (δ : SS) (k : α → SS → R β) : (R.ok a δ).bind k = k a δ := rfl
@[simp] theorem bind_bad {α β : Type} (k : α → SS → R β) : (R.bad : R α).bind k = .bad := rfl
@[simp] theorem bind_ex {α β : Type} (c f : Str) (x : D) (δ : SS) (k : α → SS → R β) : (R.ex c f x δ : R α).bind k = .ex c f x δ := rfl
@[simp] theorem opt_some {α : Type} (a : α) (δ : SS) : R.opt (some a) δ = .ok a δ := rfl
@[simp] theorem opt_none {α : Type} (δ : SS) : R.opt (none : Option α) δ = .bad := rfl
@[simp] theorem gD_ap (g : SS → R OC) (δ : SS) : gD g δ = ((g δ).bind fun c δ' => .ok c.toD δ') := rfl
@[simp] theorem gVar_ap (i : Nat) (δ : SS) : gVar i δ = (match δ[i]? with
  | some (some (.d x)) => .ok x δ
  | _ => .bad) := rfl
@[simp] theorem gC_ap (d : D) (δ : SS) : gC d δ = (.ok d δ) := rfl
@[simp] theorem gOp_ap (f : D → D → Option D) (ga gb : SS → R D) (δ : SS) : gOp f ga gb δ = ((ga δ).bind fun x δ1 => (gb δ1).bind fun y δ2 => R.opt (f x y) δ2) := rfl
@[simp] theorem gT_ap (g : SS → R D) (δ : SS) : gT g δ = ((g δ).bind fun x δ1 => R.opt (dBool x) δ1) := rfl
@[simp] theorem gChain_ap (f f' : D → D → Option D) (ga gb gc : SS → R D) (δ : SS) : gChain f f' ga gb gc δ = ((ga δ).bind fun x δ1 => (gb δ1).bind fun y δ2 => (R.opt ((f x y).bind dBool) δ2).bind fun k δ3 =>
  if k = true then (gc δ3).bind fun z δ4 => R.opt (f' y z) δ4 else .ok (.bool false) δ3) := rfl
@[simp] theorem gAnd_ap (ga gb : SS → R Bool) (δ : SS) : gAnd ga gb δ = ((ga δ).bind fun x δ1 => if x = true then gb δ1 else .ok false δ1) := rfl
@[simp] theorem gOr_ap (ga gb : SS → R Bool) (δ : SS) : gOr ga gb δ = ((ga δ).bind fun x δ1 => if x = true then .ok true δ1 else gb δ1) := rfl
@[simp] theorem gNot_ap (ga : SS → R Bool) (δ : SS) : gNot ga δ = ((ga δ).bind fun x δ1 => .ok (!x) δ1) := rfl
@[simp] theorem gAndV_ap (ga gb : SS → R D) (δ : SS) : gAndV ga gb δ = ((gT ga δ).bind fun x δ1 => if x = true then gb δ1 else .ok (.bool false) δ1) := rfl
@[simp] theorem gOrV_ap (ga gb : SS → R D) (δ : SS) : gOrV ga gb δ = ((gT ga δ).bind fun x δ1 => if x = true then .ok (.bool true) δ1 else gb δ1) := rfl
@[simp] theorem gNotV_ap (ga : SS → R D) (δ : SS) : gNotV ga δ = ((gT ga δ).bind fun x δ1 => .ok (.bool (!x)) δ1) := rfl
@[simp] theorem gIfE_ap {α : Type} (gc : SS → R Bool) (ga gb : SS → R α) (δ : SS) : gIfE gc ga gb δ = ((gc δ).bind fun x δ1 => if x = true then ga δ1 else gb δ1) := rfl
@[simp] theorem gNil_ap  (δ : SS) : gNil  δ = (.ok [] δ) := rfl
@[simp] theorem gCons_ap (g : SS → R D) (gs : SS → R (List D)) (δ : SS) : gCons g gs δ = ((g δ).bind fun x δ1 => (gs δ1).bind fun xs δ2 => .ok (x :: xs) δ2) := rfl
@[simp] theorem gTup_ap (gs : SS → R (List D)) (δ : SS) : gTup gs δ = ((gs δ).bind fun xs δ1 => (R.opt (fitL xs) δ1).bind fun ys δ2 => .ok (.tuple ys) δ2) := rfl
@[simp] theorem gLst_ap (gs : SS → R (List D)) (δ : SS) : gLst gs δ = ((gs δ).bind fun xs δ1 => (R.opt (fitL xs) δ1).bind fun ys δ2 => .ok (.l ys) δ2) := rfl
@[simp] theorem gOwn_ap (i : Nat) (δ : SS) : gOwn i δ = (match δ[i]? with
  | some (some (.o c)) => .ok c.toD δ
  | _ => .bad) := rfl
@[simp] theorem gOpL_ap (f : D → D → Option D) (i : Nat) (gb : SS → R D) (δ : SS) : gOpL f i gb δ = (match δ[i]? with | some (some (.o _)) => gOpO f i gb δ | _ => .bad) := rfl
@[simp] theorem gOpO_ap (f : D → D → Option D) (i : Nat) (gb : SS → R D) (δ : SS) : gOpO f i gb δ = ((gb δ).bind fun y δ2 => (gOwn i δ2).bind fun x _ => R.opt (f x y) δ2) := rfl
@[simp] theorem gOpN_ap (f : D → D → Option OC) (ga gb : SS → R D) (δ : SS) : gOpN f ga gb δ = ((ga δ).bind fun x δ1 => (gb δ1).bind fun y δ2 => R.opt (f x y) δ2) := rfl
@[simp] theorem gUn_ap (f : D → Option D) (g : SS → R D) (δ : SS) : gUn f g δ = ((g δ).bind fun x δ1 => R.opt (f x) δ1) := rfl
@[simp] theorem gUnN_ap (f : D → Option OC) (g : SS → R D) (δ : SS) : gUnN f g δ = ((g δ).bind fun x δ1 => R.opt (f x) δ1) := rfl
@[simp] theorem gScr_ap (i : Nat) (δ : SS) : gScr i δ = (match δ[i]? with
  | some (some (.q ns)) => .ok ns δ
  | _ => .bad) := rfl
@[simp] theorem gScrIx_ap (i : Nat) (gb : SS → R D) (δ : SS) : gScrIx i gb δ = ((gScr i δ).bind fun ns δ1 => (gb δ1).bind fun y δ2 => R.opt (dIx (.list (ns.map .int)) y) δ2) := rfl
@[simp] theorem gScrLen_ap (i : Nat) (δ : SS) : gScrLen i δ = ((gScr i δ).bind fun ns δ1 => .ok (.int ns.length) δ1) := rfl
@[simp] theorem gPart_ap (g : SS → R D) (δ : SS) : gPart g δ = ((g δ).bind fun x δ1 => match x with
  | .int i => .ok (some i) δ1
  | _ => .bad) := rfl
@[simp] theorem gPartN_ap  (δ : SS) : gPartN  δ = (.ok none δ) := rfl
@[simp] theorem gSl_ap {α : Type} (f : D → Option Int → Option Int → Option α) (ga : SS → R D) (gl gh : SS → R (Option Int)) (δ : SS) : gSl f ga gl gh δ = ((ga δ).bind fun x δ1 => (gl δ1).bind fun l δ2 => (gh δ2).bind fun h δ3 => R.opt (f x l h) δ3) := rfl
@[simp] theorem gItL_ap (g : SS → R D) (δ : SS) : gItL g δ = ((g δ).bind fun x δ1 => match x with
  | .list xs => .ok xs δ1
  | _ => .bad) := rfl
@[simp] theorem gItT_ap (g : SS → R D) (δ : SS) : gItT g δ = ((g δ).bind fun x δ1 => match x with
  | .tuple xs => .ok xs δ1
  | _ => .bad) := rfl
@[simp] theorem gItS_ap (g : SS → R D) (δ : SS) : gItS g δ = ((g δ).bind fun x δ1 => match x with
  | .str z => .ok (signsD z) δ1
  | _ => .bad) := rfl
@[simp] theorem gRange1_ap (g : SS → R D) (δ : SS) : gRange1 g δ = ((g δ).bind fun x δ1 => match x with
  | .int j => if -(2 ^ 62) ≤ j ∧ j < 2 ^ 62 then .ok (rangeD 0 j.toNat) δ1 else .bad
  | _ => .bad) := rfl
@[simp] theorem gBin_ap {α : Type} (f : D → D → Option α) (ga gb : SS → R D) (δ : SS) : gBin f ga gb δ = ((ga δ).bind fun x δ1 => (gb δ1).bind fun y δ2 => R.opt (f x y) δ2) := rfl
@[simp] theorem gSkip_ap  (δ : SS) : gSkip  δ = (.ok .nx δ) := rfl
@[simp] theorem gSeq_ap (g1 g2 : SS → R Fl) (δ : SS) : gSeq g1 g2 δ = (match g1 δ with
  | .ok .nx δ1 => g2 δ1
  | r => r) := rfl
@[simp] theorem gBrk_ap  (δ : SS) : gBrk  δ = (.ok .bk δ) := rfl
@[simp] theorem gCnt_ap  (δ : SS) : gCnt  δ = (.ok .ct δ) := rfl
@[simp] theorem gDrop_ap (g : SS → R D) (δ : SS) : gDrop g δ = ((g δ).bind fun _ δ1 => .ok .nx δ1) := rfl
@[simp] theorem gRet_ap (g : SS → R D) (δ : SS) : gRet g δ = ((g δ).bind fun x δ1 => .ok (.rt (.d x)) δ1) := rfl
@[simp] theorem gRetO_ap (g : SS → R OC) (δ : SS) : gRetO g δ = ((g δ).bind fun x δ1 => .ok (.rt (.o x)) δ1) := rfl
@[simp] theorem gRetOwn_ap (i : Nat) (δ : SS) : gRetOwn i δ = (match δ[i]? with
  | some (some (.o c)) => .ok (.rt (.o c)) (δ.set i none)
  | _ => .bad) := rfl
@[simp] theorem gIf_ap (gt : SS → R Bool) (g1 g2 : SS → R Fl) (δ : SS) : gIf gt g1 g2 δ = ((gt δ).bind fun k δ1 => if k = true then g1 δ1 else g2 δ1) := rfl
@[simp] theorem gAsg_ap (i : Nat) (g : SS → R D) (δ : SS) : gAsg i g δ = ((g δ).bind fun x δ1 => .ok .nx (δ1.set i (some (.d x)))) := rfl
@[simp] theorem gAsgO_ap (i : Nat) (g : SS → R OC) (δ : SS) : gAsgO i g δ = ((g δ).bind fun x δ1 => .ok .nx (δ1.set i (some (.o x)))) := rfl
@[simp] theorem gAsgT_ap (f : D → SS → Option SS) (g : SS → R D) (δ : SS) : gAsgT f g δ = ((g δ).bind fun x δ1 => match f x δ1 with
  | some δ2 => .ok .nx δ2
  | none => .bad) := rfl
@[simp] theorem gPar_ap (i j : Nat) (ga gb : SS → R D) (δ : SS) : gPar i j ga gb δ = ((ga δ).bind fun x δ1 => (gb δ1).bind fun y δ2 => .ok .nx ((δ2.set i (some (.d x))).set j (some (.d y)))) := rfl
@[simp] theorem gParO_ap (i j : Nat) (ga : SS → R D) (gb : SS → R OC) (δ : SS) : gParO i j ga gb δ = ((ga δ).bind fun x δ1 => (gb δ1).bind fun y δ2 => .ok .nx ((δ2.set i (some (.d x))).set j (some (.o y)))) := rfl
@[simp] theorem gParF_ap (i j : Nat) (go : SS → R OC) (gb : SS → R D) (δ : SS) : gParF i j go gb δ = ((go δ).bind fun x δ1 => match gb δ1 with
  | .ok y δ2 => .ok .nx (((mergeD δ1 δ2).set j (some (.d y))).set i (some (.o x)))
  | _ => .bad) := rfl
@[simp] theorem gPar3_ap (i j l : Nat) (ga gb gc : SS → R D) (δ : SS) : gPar3 i j l ga gb gc δ = ((ga δ).bind fun x δ1 => (gb δ1).bind fun y δ2 => (gc δ2).bind fun z δ3 => .ok .nx (((δ3.set i (some (.d x))).set j (some (.d y))).set l (some (.d z)))) := rfl
@[simp] theorem gPar3O_ap (i j l : Nat) (ga gb : SS → R D) (gc : SS → R OC) (δ : SS) : gPar3O i j l ga gb gc δ = ((ga δ).bind fun x δ1 => (gb δ1).bind fun y δ2 => (gc δ2).bind fun z δ3 => .ok .nx (((δ3.set i (some (.d x))).set j (some (.d y))).set l (some (.o z)))) := rfl
@[simp] theorem gApp_ap (i : Nat) (g : SS → R D) (δ : SS) : gApp i g δ = ((g δ).bind fun x δ1 => match δ1[i]? with
  | some (some (.o (.l xs))) => if xs.length < sizeLine then .ok .nx (δ1.set i (some (.o (.l (xs ++ [x]))))) else .bad
  | _ => .bad) := rfl
@[simp] theorem gApO_ap (i : Nat) (g : SS → R D) (δ : SS) : gApO i g δ = (match δ[i]? with
  | some (some (.o (.l _))) => gApp i g δ
  | _ => .bad) := rfl
@[simp] theorem gSetIx_ap (i : Nat) (gv gi : SS → R D) (δ : SS) : gSetIx i gv gi δ = ((gv δ).bind fun v δ1 => if isO i δ1 = true then (gi δ1).bind fun k δ2 => match δ2[i]?, k with
    | some (some (.o (.l xs))), .int k => (match ixN xs.length k with
      | some j => .ok .nx (δ2.set i (some (.o (.l (xs.set j v)))))
      | none => .bad)
    | _, _ => .bad
  else .bad) := rfl
@[simp] theorem gAg0_ap  (δ : SS) : gAg0  δ = (.ok [] δ) := rfl
@[simp] theorem gAgD_ap (g : SS → R D) (gs : SS → R (List Ag)) (δ : SS) : gAgD g gs δ = ((g δ).bind fun x δ1 => (gs δ1).bind fun xs δ2 => .ok (.v (.d x) :: xs) δ2) := rfl
@[simp] theorem gAgS_ap (i : Nat) (gs : SS → R (List Ag)) (δ : SS) : gAgS i gs δ = (match δ[i]? with
  | some (some (SV.o _)) => (gs δ).bind fun xs δ2 => .ok (.s i :: xs) δ2
  | some (some (SV.q ns)) => (gs δ).bind fun xs δ2 => .ok (.v (.q ns) :: xs) δ2
  | _ => .bad) := rfl
@[simp] theorem gAgF_ap (g : SS → R OC) (δ : SS) : gAgF g δ = ((g δ).bind fun c δ1 => .ok [.f c] δ1) := rfl
@[simp] theorem gCallR_ap (np : Nat) (G : List SV → RF) (gs : SS → R (List Ag)) (δ : SS) : gCallR np G gs δ = ((gs δ).bind (gCallA np G)) := rfl
@[simp] theorem gCallKN_ap (np m mk : Nat) (π : List Nat) (G : List SV → RF) (gs gk : SS → R (List Ag)) (δ : SS) : gCallKN np m mk π G gs gk δ = ((gs δ).bind fun as δ1 => if noF as = true then (gk δ1).bind (fun bs δ2 => if as.length = m ∧ bs.length = mk then gCallA np G (pick π (as ++ bs)) δ2 else .bad) else .bad) := rfl
@[simp] theorem gOfR_ap (g : SS → R RV) (δ : SS) : gOfR g δ = ((g δ).bind fun r δ1 => .ok r.toD δ1) := rfl
@[simp] theorem gOfRO_ap (g : SS → R RV) (δ : SS) : gOfRO g δ = ((g δ).bind fun r δ1 => match r with
  | .o c => .ok c δ1
  | .d _ => .bad) := rfl
@[simp] theorem gRaise_ap (c f : Str) (g : SS → R D) (δ : SS) : gRaise c f g δ = ((g δ).bind fun x δ1 => .ex c f x δ1) := rfl
@[simp] theorem gRef_ap (c f : Str) (g : SS → R D) (δ : SS) : gRef c f g δ = (match g δ with
  | .bad => .bad
  | .ok _ δ1 => .ok (.str "") δ1
  | .ex c' f' x δ1 => if c' = c ∧ f' = f then .ok x δ1 else .bad) := rfl
@[simp] theorem gFrz_ap (i : Nat) (g : SS → R Fl) (δ : SS) : gFrz i g δ = (match δ[i]? with
  | some (some (.o c)) => g (δ.set i (some (.d c.toD)))
  | _ => .bad) := rfl
@[simp] theorem gEnum_ap (f : D → Option (List D)) (g : SS → R D) (δ : SS) : gEnum f g δ = ((g δ).bind fun x δ1 => match f x with
  | some xs => .ok (enumD xs) δ1
  | none => .bad) := rfl
@[simp] theorem gEnumL_ap (g : SS → R D) (δ : SS) : gEnumL g δ = ((gItL g δ).bind fun xs δ1 => .ok (enumD xs) δ1) := rfl
@[simp] theorem gYes_ap  (δ : SS) : gYes  δ = (.ok true δ) := rfl
@[simp] theorem gFor_ap (src : SS → R (List D)) (tg : D → SS → Option SS) (gb : SS → R Fl) (δ : SS) : gFor src tg gb δ = ((src δ).bind fun items δ1 => forLoop tg gb items δ1) := rfl
@[simp] theorem gScrSl_ap (i : Nat) (gl gh : SS → R (Option Int)) (δ : SS) : gScrSl i gl gh δ = gSl cSlL (fun δ => (gScr i δ).bind fun ns δ1 => .ok (.list (ns.map .int)) δ1) gl gh δ := rfl
@[simp] theorem gDef_ap (np m : Nat) (gb : SS → R Fl) (svs : List SV) : gDef np m gb svs = (if svs.length = np then toRF np (gb (svs.map some ++ List.replicate m none)) else .bad) := rfl
@[simp] theorem resolve_ap (δ : SS) (ags : List Ag) : resolve δ ags = (if agOk ags = true then resL δ ags else none) := rfl
@[simp] theorem agOk_ap (ags : List Ag) : agOk ags = decide (ags.Pairwise fun a b => agId a = none ∨ agId a ≠ agId b) := rfl
@[simp] theorem gCallA_ap (np : Nat) (G : List SV → RF) (ags : List Ag) (δ : SS) : gCallA np G ags δ = (if ags.length = np then (match resolve δ ags with
  | none => .bad
  | some svs => match G svs with
    | .bad => .bad
    | .ok r as => .ok r (DL.wb δ ags as)
    | .ex c f x as => .ex c f x (DL.wb δ ags as)) else .bad) := rfl
@[simp] theorem ocAt_ap (δ : SS) (i : Nat) : ocAt δ i = (match δ[i]? with
  | some (some (.o c)) => some c
  | _ => none) := rfl
@[simp] theorem isO_ap (i : Nat) (δ : SS) : isO i δ = (match δ[i]? with
  | some (some (.o (.l _))) => true
  | _ => false) := rfl
@[simp] theorem fName_ap (i : Nat) (d : D) (δ : SS) : fName i d δ = some (δ.set i (some (.d d))) := rfl
@[simp] theorem fNil_ap (δ : SS) : fNil [] δ = some δ := rfl
@[simp] theorem fCons_ap (f : D → SS → Option SS) (fs : List D → SS → Option SS) (d : D) (r : List D) (δ : SS) : fCons f fs (d :: r) δ = (f d δ).bind fun δ1 => fs r δ1 := rfl
@[simp] theorem fTup_ap (n : Nat) (fs : List D → SS → Option SS) (ds : List D) (δ : SS) : fTup n fs (.tuple ds) δ = if ds.length = n then fs ds δ else none := rfl
@[simp] theorem noF_nil : noF [] = true := rfl
@[simp] theorem noF_v (x : SV) (as : List Ag) : noF (.v x :: as) = noF as := by simp [noF]
@[simp] theorem noF_s (i : Nat) (as : List Ag) : noF (.s i :: as) = noF as := by simp [noF]
@[simp] theorem aft_0 (δ : SS) : aft 0 δ = [] := rfl
@[simp] theorem aft_1 (δ : SS) : aft 1 δ = [ocAt δ 0] := rfl
@[simp] theorem aft_2 (δ : SS) : aft 2 δ = [ocAt δ 0, ocAt δ 1] := rfl
@[simp] theorem aft_3 (δ : SS) : aft 3 δ = [ocAt δ 0, ocAt δ 1, ocAt δ 2] := rfl
@[simp] theorem aft_4 (δ : SS) : aft 4 δ = [ocAt δ 0, ocAt δ 1, ocAt δ 2, ocAt δ 3] := rfl
@[simp] theorem aft_5 (δ : SS) : aft 5 δ = [ocAt δ 0, ocAt δ 1, ocAt δ 2, ocAt δ 3, ocAt δ 4] := rfl
@[simp] theorem aft_6 (δ : SS) : aft 6 δ = [ocAt δ 0, ocAt δ 1, ocAt δ 2, ocAt δ 3, ocAt δ 4, ocAt δ 5] := rfl
@[simp] theorem aft_7 (δ : SS) : aft 7 δ = [ocAt δ 0, ocAt δ 1, ocAt δ 2, ocAt δ 3, ocAt δ 4, ocAt δ 5, ocAt δ 6] := rfl
@[simp] theorem aft_8 (δ : SS) : aft 8 δ = [ocAt δ 0, ocAt δ 1, ocAt δ 2, ocAt δ 3, ocAt δ 4, ocAt δ 5, ocAt δ 6, ocAt δ 7] := rfl
@[simp] theorem aft_9 (δ : SS) : aft 9 δ = [ocAt δ 0, ocAt δ 1, ocAt δ 2, ocAt δ 3, ocAt δ 4, ocAt δ 5, ocAt δ 6, ocAt δ 7, ocAt δ 8] := rfl
@[simp] theorem aft_10 (δ : SS) : aft 10 δ = [ocAt δ 0, ocAt δ 1, ocAt δ 2, ocAt δ 3, ocAt δ 4, ocAt δ 5, ocAt δ 6, ocAt δ 7, ocAt δ 8, ocAt δ 9] := rfl
@[simp] theorem aft_11 (δ : SS) : aft 11 δ = [ocAt δ 0, ocAt δ 1, ocAt δ 2, ocAt δ 3, ocAt δ 4, ocAt δ 5, ocAt δ 6, ocAt δ 7, ocAt δ 8, ocAt δ 9, ocAt δ 10] := rfl
@[simp] theorem aft_12 (δ : SS) : aft 12 δ = [ocAt δ 0, ocAt δ 1, ocAt δ 2, ocAt δ 3, ocAt δ 4, ocAt δ 5, ocAt δ 6, ocAt δ 7, ocAt δ 8, ocAt δ 9, ocAt δ 10, ocAt δ 11] := rfl
@[simp] theorem aft_13 (δ : SS) : aft 13 δ = [ocAt δ 0, ocAt δ 1, ocAt δ 2, ocAt δ 3, ocAt δ 4, ocAt δ 5, ocAt δ 6, ocAt δ 7, ocAt δ 8, ocAt δ 9, ocAt δ 10, ocAt δ 11, ocAt δ 12] := rfl
@[simp] theorem aft_14 (δ : SS) : aft 14 δ = [ocAt δ 0, ocAt δ 1, ocAt δ 2, ocAt δ 3, ocAt δ 4, ocAt δ 5, ocAt δ 6, ocAt δ 7, ocAt δ 8, ocAt δ 9, ocAt δ 10, ocAt δ 11, ocAt δ 12, ocAt δ 13] := rfl
@[simp] theorem fitL_ap (xs : List D) : fitL xs = (if xs.length ≤ sizeLine then some xs else none) := rfl
theorem small_line {n : Nat} (h : n ≤ 1000000) : n ≤ sizeLine := by
  rw [sizeLine_eq]
  omega
@[simp] theorem line_0 : (0 ≤ sizeLine) = True := by simp [small_line (n := 0) (by decide)]
@[simp] theorem line_1 : (1 ≤ sizeLine) = True := by simp [small_line (n := 1) (by decide)]
@[simp] theorem line_2 : (2 ≤ sizeLine) = True := by simp [small_line (n := 2) (by decide)]
@[simp] theorem line_3 : (3 ≤ sizeLine) = True := by simp [small_line (n := 3) (by decide)]
@[simp] theorem line_4 : (4 ≤ sizeLine) = True := by simp [small_line (n := 4) (by decide)]
@[simp] theorem line_5 : (5 ≤ sizeLine) = True := by simp [small_line (n := 5) (by decide)]
@[simp] theorem line_6 : (6 ≤ sizeLine) = True := by simp [small_line (n := 6) (by decide)]
@[simp] theorem line_7 : (7 ≤ sizeLine) = True := by simp [small_line (n := 7) (by decide)]
@[simp] theorem line_8 : (8 ≤ sizeLine) = True := by simp [small_line (n := 8) (by decide)]
/-- a value is given, of which P holds -/
def OkR {α : Type} (r : R α) (P : α → SS → Prop) : Prop := ∃ a δ, r = .ok a δ ∧ P a δ
@[simp] theorem okR_ok {α : Type} (a : α) (δ : SS) (P : α → SS → Prop) : OkR (.ok a δ) P ↔ P a δ := ⟨fun ⟨_, _, e, h⟩ => by cases e; exact h, fun h => ⟨a, δ, rfl, h⟩⟩
@[simp] theorem okR_bad {α : Type} (P : α → SS → Prop) : OkR .bad P ↔ False := ⟨fun ⟨_, _, e, _⟩ => (nomatch e), False.elim⟩
@[simp] theorem okR_ex {α : Type} (c f : Str) (x : D) (δ : SS) (P : α → SS → Prop) : OkR (.ex c f x δ) P ↔ False := ⟨fun ⟨_, _, e, _⟩ => (nomatch e), False.elim⟩
theorem okR_bind {α β : Type} {r : R α} {k : α → SS → R β} {P : β → SS → Prop} (h : OkR r fun a δ => OkR (k a δ) P) : OkR (r.bind k) P := by
  obtain ⟨a, δ, rfl, h⟩ := h
  exact h
theorem okR_imp {α : Type} {r : R α} {P Q : α → SS → Prop} (h : OkR r P) (hq : ∀ a δ, P a δ → Q a δ) : OkR r Q := by
  obtain ⟨a, δ, e, h⟩ := h
  exact ⟨a, δ, e, hq _ _ h⟩
/-! slots -/
theorem var_at {i : Nat} {δ : SS} {x : D} (h : δ[i]? = some (some (.d x))) : gVar i δ = .ok x δ := by unfold gVar; rw [h]
theorem own_at {i : Nat} {δ : SS} {c : OC} (h : δ[i]? = some (some (.o c))) : gOwn i δ = .ok c.toD δ := by unfold gOwn; rw [h]
/-! ints -/
theorem alike_ii (a b : Int) : PySem.W.alike (.int a) (.int b) = true := by simp [PySem.W.alike]
theorem lt_ii (a b : Int) : PySem.W.dataLt (.int a) (.int b) = decide (a < b) := by
  have h := congrFun (congrFun (PySem.W.dataLe_int (β := Int) id) b) a
  have h' : (!PySem.W.dataLt (.int a) (.int b)) = decide (b ≤ a) := h
  have e : PySem.W.dataLt (.int a) (.int b) = !decide (b ≤ a) := by rw [← h', Bool.not_not]
  rw [e]
  by_cases c : a < b
  · rw [decide_eq_true c, decide_eq_false (by omega)]
    rfl
  · rw [decide_eq_false c, decide_eq_true (by omega)]
    rfl
theorem ordB_ii (a b : Int) : ordB (.int a) (.int b) = true := by simp [ordB, PySem.W.alike, PyData.plain, PyData.depth]
@[simp] theorem dLt_ii (a b : Int) : dLt (.int a) (.int b) = some (.bool (decide (a < b))) := by simp [dLt, dOrd, ordB_ii, lt_ii]
@[simp] theorem dGt_ii (a b : Int) : dGt (.int a) (.int b) = some (.bool (decide (b < a))) := by simp [dGt, dOrd, ordB_ii, lt_ii]
@[simp] theorem dLe_ii (a b : Int) : dLe (.int a) (.int b) = some (.bool (decide (a ≤ b))) := by
  simp only [dLe, dOrd, ordB_ii, lt_ii, if_true]
  by_cases c : a ≤ b
  · rw [decide_eq_true c, decide_eq_false (by omega)]
    rfl
  · rw [decide_eq_false c, decide_eq_true (by omega)]
    rfl
@[simp] theorem dGe_ii (a b : Int) : dGe (.int a) (.int b) = some (.bool (decide (b ≤ a))) := by
  simp only [dGe, dOrd, ordB_ii, lt_ii, if_true]
  by_cases c : b ≤ a
  · rw [decide_eq_true c, decide_eq_false (by omega)]
    rfl
  · rw [decide_eq_false c, decide_eq_true (by omega)]
    rfl
theorem eqB_ii (a b : Int) : eqB (.int a) (.int b) = true := by simp [eqB, PyData.plain, PyData.depth]
@[simp] theorem dEq_ii (a b : Int) : dEq (.int a) (.int b) = some (.bool (decide (a = b))) := by
  simp only [dEq, dEqF, eqB_ii, PyData.eqv, if_true]
  rfl
@[simp] theorem dNe_ii (a b : Int) : dNe (.int a) (.int b) = some (.bool (decide (a ≠ b))) := by
  simp only [dNe, dEqF, eqB_ii, PyData.eqv, if_true]
  by_cases c : a = b <;> simp [c]
@[simp] theorem dAdd_ii (a b : Int) : dAdd (.int a) (.int b) = some (.int (a + b)) := rfl
@[simp] theorem dSub_ii (a b : Int) : dSub (.int a) (.int b) = some (.int (a - b)) := rfl
@[simp] theorem dNeg_i (a : Int) : dNeg (.int a) = some (.int (-a)) := rfl
@[simp] theorem dBool_b (b : Bool) : dBool (.bool b) = some b := rfl
theorem dMod_ii {a b : Int} (h : 0 < b) : dMod (.int a) (.int b) = some (.int (a % b)) := by
  show (if 0 < b then some (PyData.int (a % b)) else none) = _
  rw [if_pos h]
theorem dDiv_ii {a b : Int} (h : 0 < b ∧ b < 1073741824) : dDiv (.int a) (.int b) = some (.int (a / b)) := by
  show (if 0 < b ∧ b < 1073741824 then some (PyData.int (a / b)) else none) = _
  rw [if_pos h]
theorem dMul_ii {a b : Int} (h : (-(2 ^ 64) < a ∧ a < 2 ^ 64) ∨ (-(2 ^ 64) < b ∧ b < 2 ^ 64)) : dMul (.int a) (.int b) = some (.int (a * b)) := by
  show (if (-(2 ^ 64) < a ∧ a < 2 ^ 64) ∨ (-(2 ^ 64) < b ∧ b < 2 ^ 64) then some (PyData.int (a * b)) else none) = _
  rw [if_pos h]
@[simp] theorem dInt_i (a : Int) : dInt (.int a) = some (.int a) := rfl
@[simp] theorem dLen_l (xs : List D) : dLen (.list xs) = some (.int xs.length) := rfl
@[simp] theorem dLen_t (xs : List D) : dLen (.tuple xs) = some (.int xs.length) := rfl
@[simp] theorem dTuple_l (xs : List D) : dTuple (.list xs) = some (.tuple xs) := rfl
@[simp] theorem dTuple_t (xs : List D) : dTuple (.tuple xs) = some (.tuple xs) := rfl
@[simp] theorem cList_l (xs : List D) : cList (.list xs) = some (.l xs) := rfl
@[simp] theorem cList_t (xs : List D) : cList (.tuple xs) = some (.l xs) := rfl
theorem ix_nat {n j : Nat} (hj : j < n) : ixN n (j : Int) = some j := by
  unfold ixN
  rw [if_pos (by omega), if_pos (by omega)]
  simp
theorem atI_nat {α : Type} {xs : List α} {j : Nat} {x : α} (h : xs[j]? = some x) : atI xs (j : Int) = some x := by
  unfold atI
  rw [ix_nat (List.getElem?_eq_some_iff.mp h).1]
  exact h
theorem dIx_l {xs : List D} {j : Nat} {x : D} (h : xs[j]? = some x) : dIx (.list xs) (.int (j : Nat)) = some x := atI_nat h
theorem dIx_t {xs : List D} {j : Nat} {x : D} (h : xs[j]? = some x) : dIx (.tuple xs) (.int (j : Nat)) = some x := atI_nat h
theorem intsOf_mapI {α : Type} (f : α → Int) (xs : List α) : intsOf (xs.map fun a => PyData.int (f a)) = some (xs.map f) := by
  have e : (xs.map fun a => PyData.int (f a)) = (xs.map f).map .int := by rw [List.map_map] <;> rfl
  rw [e, intsOf_map]
theorem blsOf_mapB {α : Type} (f : α → Bool) (xs : List α) : blsOf (xs.map fun a => PyData.bool (f a)) = some (xs.map f) := by
  have e : (xs.map fun a => PyData.bool (f a)) = (xs.map f).map .bool := by rw [List.map_map] <;> rfl
  rw [e, blsOf_map]
theorem dAll_mapB {α : Type} (f : α → Bool) (xs : List α) : dAll (.list (xs.map fun a => PyData.bool (f a))) = some (.bool (xs.all f)) := by
  show (blsOf (xs.map fun a => PyData.bool (f a))).map (fun bs => PyData.bool (bs.all id)) = _
  rw [blsOf_mapB]
  simp [List.all_map]
/-! comprehensions whose parts are told item by item -/
def lcOne (vs : List Nat) (tg : D → SS → Option SS) (tt : SS → R Bool) (te : SS → R D) (d : D) (δ : SS) : Option (Option D × SS) := match tg d (wipeD δ vs) with
  | none => none
  | some δ1 => match tt δ1 with
    | .ok true δ2 => (match te δ2 with
      | .ok y δ3 => some (some y, mergeD δ δ3)
      | _ => none)
    | .ok false δ2 => some (none, mergeD δ δ2)
    | _ => none
theorem lc_run1 {α : Type} {vs : List Nat} {tg : D → SS → Option SS} {tt : SS → R Bool} {te : SS → R D} {δ : SS} (enc : α → D) (p : α → Bool) (f : α → D) : ∀ (xs : List α) (ys : List D),
    (∀ a ∈ xs, lcOne vs tg tt te (enc a) δ = some (if p a = true then some (f a) else none, δ)) → ys.length + xs.length ≤ sizeLine →
    lcLoop vs tg tt te (xs.map enc) ys δ = .ok (.l (ys ++ (xs.filter p).map f)) δ
  | [], ys, _, _ => by simp [lcLoop]
  | a :: xs, ys, h, hl => by
    have h1 := h a (by simp)
    have hl' : ys.length + xs.length + 1 ≤ sizeLine := by simpa [Nat.add_assoc] using hl
    rw [List.map_cons]
    unfold lcLoop
    unfold lcOne at h1
    cases etg : tg (enc a) (wipeD δ vs) with
    | none =>
      rw [etg] at h1
      cases h1
    | some δ1 =>
      rw [etg] at h1
      dsimp only at h1 ⊢
      cases ett : tt δ1 with
      | bad =>
        rw [ett] at h1
        cases h1
      | ex c f x δ2 =>
        rw [ett] at h1
        cases h1
      | ok k δ2 =>
        rw [ett] at h1
        cases k with
        | true =>
          dsimp only at h1 ⊢
          cases ete : te δ2 with
          | bad =>
            rw [ete] at h1
            cases h1
          | ex c f x δ3 =>
            rw [ete] at h1
            cases h1
          | ok y δ3 =>
            rw [ete] at h1
            dsimp only at h1 ⊢
            cases hp : p a with
            | false =>
              rw [hp] at h1
              cases h1
            | true =>
              rw [hp] at h1
              have h2 := Option.some.inj h1
              injection h2 with h3 h4
              have h5 : y = f a := Option.some.inj h3
              rw [if_pos (by omega), h4, h5, lc_run1 enc p f xs (ys ++ [f a]) (fun b hb => h b (by simp [hb])) (by simp; omega)]
              simp [hp]
        | false =>
          dsimp only at h1 ⊢
          cases hp : p a with
          | true =>
            rw [hp] at h1
            cases h1
          | false =>
            have h2 := Option.some.inj h1
            injection h2 with h3 h4
            rw [h4, lc_run1 enc p f xs ys (fun b hb => h b (by simp [hb])) (by omega)]
            simp [hp]
theorem gLc_run {α : Type} {vs : List Nat} {src : SS → R (List D)} {tg : D → SS → Option SS} {tt : SS → R Bool} {te : SS → R D} {δ δ0 : SS} (enc : α → D) (p : α → Bool) (f : α → D) (xs : List α) (hs : src δ0 = .ok (xs.map enc) δ) (hl : xs.length ≤ sizeLine)
    (h : ∀ a ∈ xs, lcOne vs tg tt te (enc a) δ = some (if p a = true then some (f a) else none, δ)) : gLc vs src tg tt te δ0 = .ok (.l ((xs.filter p).map f)) δ := by
  unfold gLc
  rw [hs, bind_ok, lc_run1 enc p f xs [] h (by simpa using hl)]
  simp
/-- without a condition -/
theorem gLc_map {α : Type} {vs : List Nat} {src : SS → R (List D)} {tg : D → SS → Option SS} {te : SS → R D} {δ δ0 : SS} (enc : α → D) (f : α → D) (xs : List α) (hs : src δ0 = .ok (xs.map enc) δ) (hl : xs.length ≤ sizeLine)
    (h : ∀ a ∈ xs, lcOne vs tg gYes te (enc a) δ = some (some (f a), δ)) : gLc vs src tg gYes te δ0 = .ok (.l (xs.map f)) δ := by
  have z := gLc_run (vs := vs) (tg := tg) (tt := gYes) (te := te) enc (fun _ => true) f xs hs hl fun a ha => by rw [h a ha]; simp
  rw [z]
  have e : xs.filter (fun _ => true) = xs := by simp
  rw [e]
/-! for loops -/
/-- where a loop's body leads: on with I, out with B, or a return of which T holds -/
def BOk (r : R Fl) (I B : SS → Prop) (T : RV → SS → Prop) : Prop := OkR r fun fl δ => match fl with
  | .nx => I δ
  | .ct => I δ
  | .bk => B δ
  | .rt v => T v δ
theorem for_run {tg : D → SS → Option SS} {gb : SS → R Fl} {B : SS → Prop} {T : RV → SS → Prop} : ∀ (ds : List D) (I : Nat → SS → Prop) (δ : SS), I 0 δ →
    (∀ i d δ, ds[i]? = some d → I i δ → ∃ δ1, tg d δ = some δ1 ∧ BOk (gb δ1) (I (i + 1)) B T) →
    OkR (forLoop tg gb ds δ) fun fl δ' => match fl with
      | .nx => I ds.length δ' ∨ B δ'
      | .rt v => T v δ'
      | _ => False
  | [], I, δ, h0, _ => ⟨.nx, δ, rfl, .inl h0⟩
  | d :: ds, I, δ, h0, hs => by
    obtain ⟨δ1, h1, fl, δ2, h2, h3⟩ := hs 0 d δ rfl h0
    unfold forLoop
    rw [h1]
    dsimp only
    rw [h2]
    have ih := for_run (tg := tg) (gb := gb) (B := B) (T := T) ds (fun i => I (i + 1)) δ2
    cases fl with
    | nx => exact ih h3 fun i d' δ' hd hI => hs (i + 1) d' δ' hd hI
    | ct => exact ih h3 fun i d' δ' hd hI => hs (i + 1) d' δ' hd hI
    | bk => exact ⟨.nx, δ2, rfl, .inr h3⟩
    | rt v => exact ⟨.rt v, δ2, rfl, h3⟩
end DL
set_option Elab.async false
set_option linter.all false
set_option maxRecDepth 100000
set_option maxHeartbeats 4000000
namespace Kk37
open PySem PySem.Spec PyProof.Rows L2 DL
def top (i : Nat) : Stmt := PySem.Challenge.pw_tonnewise_k37_whole_inspections.main.body.getD i (.Pass ⟨0, 0, 0, 0⟩)
abbrev s_is_integer : Stmt := top 4
abbrev s_is_in : Stmt := top 5
abbrev s_is_tuple_of : Stmt := top 6
abbrev s_are_at_most : Stmt := top 7
abbrev s_is_ascending : Stmt := top 8
abbrev s_demand : Stmt := top 9
abbrev s_are_indexes : Stmt := top 10
abbrev s_is_time : Stmt := top 14
abbrev s_are_times : Stmt := top 15
abbrev s_inspect : Stmt := top 16
abbrev s_inspections : Stmt := top 17
abbrev s_apart : Stmt := top 18
abbrev s_is_apart : Stmt := top 19
abbrev s__law_dice : Stmt := top 21
abbrev s__law_roll : Stmt := top 22
abbrev s__law_pick : Stmt := top 23
abbrev s__law_refused : Stmt := top 24
abbrev s__law_most_apart : Stmt := top 25
abbrev s__law_is_due : Stmt := top 26
abbrev s__law_as_late : Stmt := top 27
abbrev s__law_right : Stmt := top 28
abbrev s_law : Stmt := top 29
theorem sc_is_integer : FnScope ["value"] ["value"] (defScope s_is_integer) := ⟨rfl, rfl, rfl, by decide +kernel, rfl, by decide +kernel, by decide +kernel⟩
theorem sc_is_in : FnScope ["value", "low", "high"] ["value", "low", "high"] (defScope s_is_in) := ⟨rfl, rfl, rfl, by decide +kernel, rfl, by decide +kernel, by decide +kernel⟩
theorem sc_is_tuple_of : FnScope ["value", "many"] ["value", "many"] (defScope s_is_tuple_of) := ⟨rfl, rfl, rfl, by decide +kernel, rfl, by decide +kernel, by decide +kernel⟩
theorem sc_are_at_most : FnScope ["value", "many"] ["value", "many"] (defScope s_are_at_most) := ⟨rfl, rfl, rfl, by decide +kernel, rfl, by decide +kernel, by decide +kernel⟩
theorem sc_is_ascending : FnScope ["values", "one", "two"] ["values"] (defScope s_is_ascending) := ⟨rfl, rfl, rfl, by decide +kernel, rfl, by decide +kernel, by decide +kernel⟩
theorem sc_demand : FnScope ["is_good", "name"] ["is_good", "name"] (defScope s_demand) := ⟨rfl, rfl, rfl, by decide +kernel, rfl, by decide +kernel, by decide +kernel⟩
theorem sc_are_indexes : FnScope ["value", "many", "at"] ["value", "many"] (defScope s_are_indexes) := ⟨rfl, rfl, rfl, by decide +kernel, rfl, by decide +kernel, by decide +kernel⟩
theorem sc_is_time : FnScope ["value"] ["value"] (defScope s_is_time) := ⟨rfl, rfl, rfl, by decide +kernel, rfl, by decide +kernel, by decide +kernel⟩
theorem sc_are_times : FnScope ["value", "time"] ["value"] (defScope s_are_times) := ⟨rfl, rfl, rfl, by decide +kernel, rfl, by decide +kernel, by decide +kernel⟩
theorem sc_inspect : FnScope ["times", "found", "last", "until", "at", "time"] ["times"] (defScope s_inspect) := ⟨rfl, rfl, rfl, by decide +kernel, rfl, by decide +kernel, by decide +kernel⟩
theorem sc_inspections : FnScope ["times", "pair"] ["times"] (defScope s_inspections) := ⟨rfl, rfl, rfl, by decide +kernel, rfl, by decide +kernel, by decide +kernel⟩
theorem sc_apart : FnScope ["times", "pair"] ["times"] (defScope s_apart) := ⟨rfl, rfl, rfl, by decide +kernel, rfl, by decide +kernel, by decide +kernel⟩
theorem sc_is_apart : FnScope ["times", "value", "some", "at", "one", "two"] ["times", "value"] (defScope s_is_apart) := ⟨rfl, rfl, rfl, by decide +kernel, rfl, by decide +kernel, by decide +kernel⟩
theorem sc__law_dice : FnScope ["script", "spot", "own", "mixed", "cell"] ["script", "spot"] (defScope s__law_dice) := ⟨rfl, rfl, rfl, by decide +kernel, rfl, by decide +kernel, by decide +kernel⟩
theorem sc__law_roll : FnScope ["dice", "total", "found"] ["dice", "total"] (defScope s__law_roll) := ⟨rfl, rfl, rfl, by decide +kernel, rfl, by decide +kernel, by decide +kernel⟩
theorem sc__law_pick : FnScope ["dice", "things"] ["dice", "things"] (defScope s__law_pick) := ⟨rfl, rfl, rfl, by decide +kernel, rfl, by decide +kernel, by decide +kernel⟩
theorem sc__law_refused : FnScope ["call", "e"] ["call"] (defScope s__law_refused) := ⟨rfl, rfl, rfl, by decide +kernel, rfl, by decide +kernel, by decide +kernel⟩
theorem sc__law_most_apart : FnScope ["times", "best", "tick", "ends", "time", "first", "last"] ["times"] (defScope s__law_most_apart) := ⟨rfl, rfl, rfl, by decide +kernel, rfl, by decide +kernel, by decide +kernel⟩
theorem sc__law_is_due : FnScope ["times", "value", "many", "some", "at"] ["times", "value", "many"] (defScope s__law_is_due) := ⟨rfl, rfl, rfl, by decide +kernel, rfl, by decide +kernel, by decide +kernel⟩
theorem sc__law_as_late : FnScope ["times", "ticks", "last", "tick", "left", "time"] ["times", "ticks"] (defScope s__law_as_late) := ⟨rfl, rfl, rfl, by decide +kernel, rfl, by decide +kernel, by decide +kernel⟩
theorem sc__law_right : FnScope ["dice", "ticks", "rows", "turn", "first", "times", "found", "some", "many", "at", "near", "bad"] ["dice"] (defScope s__law_right) := ⟨rfl, rfl, rfl, by decide +kernel, rfl, by decide +kernel, by decide +kernel⟩
theorem sc_law : FnScope ["script", "spot"] ["script"] (defScope s_law) := ⟨rfl, rfl, rfl, by decide +kernel, rfl, by decide +kernel, by decide +kernel⟩
noncomputable def g_is_integer : SS → R Fl := gRet (gAndV (gUn (dIsi "int") (gVar 0)) (gNotV (gUn (dIsi "bool") (gVar 0))))
noncomputable def G_is_integer : List SV → RF := gDef 1 0 g_is_integer
noncomputable def g_is_in : SS → R Fl := gRet (gAndV (gOfR (gCallR 1 G_is_integer (gAgD (gVar 0) (gAg0)))) (gChain dLe dLe (gVar 1) (gVar 0) (gVar 2)))
noncomputable def G_is_in : List SV → RF := gDef 3 0 g_is_in
noncomputable def g_is_tuple_of : SS → R Fl := gRet (gAndV (gUn (dIsi "tuple") (gVar 0)) (gOp dEq (gUn dLen (gVar 0)) (gVar 1)))
noncomputable def G_is_tuple_of : List SV → RF := gDef 2 0 g_is_tuple_of
noncomputable def g_are_at_most : SS → R Fl := gRet (gAndV (gUn (dIsi "tuple") (gVar 0)) (gOp dLe (gUn dLen (gVar 0)) (gVar 1)))
noncomputable def G_are_at_most : List SV → RF := gDef 2 0 g_are_at_most
noncomputable def g_is_ascending : SS → R Fl := gRet (gUn dAll (gD (gLc [1, 2] (gBin dZip (gVar 0) (gSl dSlT (gVar 0) (gPart (gC (.int 1))) (gPartN))) (fTup 2 (fCons (fName 1) (fCons (fName 2) (fNil)))) (gYes) (gOp dLt (gVar 1) (gVar 2)))))
noncomputable def G_is_ascending : List SV → RF := gDef 1 2 g_is_ascending
noncomputable def g_demand : SS → R Fl := gIf (gNot (gT (gVar 0))) (gRaise "BadArgument" "name" (gVar 1)) (gSkip)
noncomputable def G_demand : List SV → RF := gDef 2 0 g_demand
noncomputable def g_are_indexes : SS → R Fl := gSeq (gIf (gOr (gNot (gT (gUn (dIsi "tuple") (gVar 0)))) (gNot (gT (gUn dAll (gD (gLc [2] (gItT (gVar 0)) (fName 2) (gYes) (gOfR (gCallR 3 G_is_in (gAgD (gVar 2) (gAgD (gC (.int 0)) (gAgD (gOp dSub (gVar 1) (gC (.int 1))) (gAg0)))))))))))) (gRet (gC (.bool false))) (gSkip)) (gRet (gOfR (gCallR 1 G_is_ascending (gAgD (gVar 0) (gAg0)))))
noncomputable def G_are_indexes : List SV → RF := gDef 2 1 g_are_indexes
noncomputable def g_is_time : SS → R Fl := gRet (gAndV (gOfR (gCallR 2 G_is_tuple_of (gAgD (gVar 0) (gAgD (gC (.int 2)) (gAg0))))) (gAndV (gOfR (gCallR 3 G_is_in (gAgD (gOp dIx (gVar 0) (gC (.int 0))) (gAgD (gC (.int 0)) (gAgD (gC (.int (1000))) (gAg0)))))) (gOfR (gCallR 3 G_is_in (gAgD (gOp dIx (gVar 0) (gC (.int 1))) (gAgD (gOp dIx (gVar 0) (gC (.int 0))) (gAgD (gC (.int (1000))) (gAg0))))))))
noncomputable def G_is_time : List SV → RF := gDef 1 0 g_is_time
noncomputable def g_are_times : SS → R Fl := gRet (gAndV (gOfR (gCallR 2 G_are_at_most (gAgD (gVar 0) (gAgD (gC (.int (60))) (gAg0))))) (gUn dAll (gD (gLc [1] (gItT (gVar 0)) (fName 1) (gYes) (gOfR (gCallR 1 G_is_time (gAgD (gVar 1) (gAg0))))))))
noncomputable def G_are_times : List SV → RF := gDef 1 1 g_are_times
noncomputable def g_inspect : SS → R Fl := gSeq (gParF 1 2 (gLst (gNil)) (gUn dNeg (gC (.int 1)))) (gSeq (gFor (gItL (gD (gUnN cSorted (gD (gLc [4, 5] (gEnum asTup (gVar 0)) (fTup 2 (fCons (fName 4) (fCons (fName 5) (fNil)))) (gYes) (gTup (gCons (gOp dIx (gVar 5) (gC (.int 1))) (gCons (gVar 4) (gNil))))))))) (fTup 2 (fCons (fName 3) (fCons (fName 4) (fNil)))) (gIf (gT (gOp dGt (gOp dIx (gOp dIx (gVar 0) (gVar 4)) (gC (.int 0))) (gVar 2))) (gSeq (gApO 1 (gTup (gCons (gVar 3) (gCons (gVar 4) (gNil))))) (gAsg 2 (gVar 3))) (gSkip))) (gRetOwn 1))
noncomputable def G_inspect : List SV → RF := gDef 1 5 g_inspect
noncomputable def g_inspections : SS → R Fl := gSeq (gDrop (gOfR (gCallR 2 G_demand (gAgD (gOfR (gCallR 1 G_are_times (gAgD (gVar 0) (gAg0)))) (gAgD (gC (.str "times")) (gAg0)))))) (gRet (gUn dTuple (gD (gLc [1] (gItL (gD (gOfRO (gCallR 1 G_inspect (gAgD (gVar 0) (gAg0)))))) (fName 1) (gYes) (gOp dIx (gVar 1) (gC (.int 0)))))))
noncomputable def G_inspections : List SV → RF := gDef 1 1 g_inspections
noncomputable def g_apart : SS → R Fl := gSeq (gDrop (gOfR (gCallR 2 G_demand (gAgD (gOfR (gCallR 1 G_are_times (gAgD (gVar 0) (gAg0)))) (gAgD (gC (.str "times")) (gAg0)))))) (gRet (gUn dTuple (gD (gUnN cSorted (gD (gLc [1] (gItL (gD (gOfRO (gCallR 1 G_inspect (gAgD (gVar 0) (gAg0)))))) (fName 1) (gYes) (gOp dIx (gVar 1) (gC (.int 1)))))))))
noncomputable def G_apart : List SV → RF := gDef 1 1 g_apart
noncomputable def g_is_apart : SS → R Fl := gSeq (gDrop (gOfR (gCallR 2 G_demand (gAgD (gOfR (gCallR 1 G_are_times (gAgD (gVar 0) (gAg0)))) (gAgD (gC (.str "times")) (gAg0)))))) (gSeq (gIf (gOr (gNot (gT (gOfR (gCallR 2 G_are_indexes (gAgD (gVar 1) (gAgD (gUn dLen (gVar 0)) (gAg0))))))) (gT (gOp dNe (gUn dLen (gVar 1)) (gUn dLen (gD (gOfRO (gCallR 1 G_inspect (gAgD (gVar 0) (gAg0))))))))) (gRet (gC (.bool false))) (gSkip)) (gSeq (gAsg 2 (gD (gUnN cSorted (gD (gLc [3] (gItT (gVar 1)) (fName 3) (gYes) (gOp dIx (gVar 0) (gVar 3))))))) (gRet (gUn dAll (gD (gLc [4, 5] (gBin dZip (gVar 2) (gD (gSl cSlL (gVar 2) (gPart (gC (.int 1))) (gPartN)))) (fTup 2 (fCons (fName 4) (fCons (fName 5) (fNil)))) (gYes) (gOp dLt (gOp dIx (gVar 4) (gC (.int 1))) (gOp dIx (gVar 5) (gC (.int 0))))))))))
noncomputable def G_is_apart : List SV → RF := gDef 2 4 g_is_apart
noncomputable def g__law_dice : SS → R Fl := gSeq (gAsg 2 (gIfE (gT (gOp dLt (gVar 1) (gScrLen 0))) (gScrIx 0 (gVar 1)) (gOp dAdd (gOp dMul (gC (.int 733)) (gVar 1)) (gC (.int 29))))) (gSeq (gAsg 3 (gOp dAdd (gC (.int 910003)) (gOp dMul (gC (.int 7907)) (gVar 1)))) (gSeq (gFor (gItL (gD (gOpN cCat (gD (gScrSl 0 (gPartN) (gPart (gC (.int 6))))) (gD (gLst (gCons (gVar 2) (gNil))))))) (fName 4) (gAsg 3 (gOp dMod (gUn dInt (gOp dAdd (gOp dMul (gVar 3) (gC (.int 48271))) (gOp dMod (gUn dInt (gVar 4)) (gC (.int 2147480009))))) (gC (.int 2147480009))))) (gRetO (gLst (gCons (gIfE (gOr (gT (gOp dLt (gVar 2) (gC (.int 0)))) (gT (gOp dGe (gVar 2) (gOp dPow (gC (.int 10)) (gC (.int 16)))))) (gUn dAbs (gVar 2)) (gC (.int 0))) (gCons (gVar 3) (gCons (gC (.int 0)) (gNil))))))))
noncomputable def G__law_dice : List SV → RF := gDef 2 3 g__law_dice
noncomputable def g__law_roll : SS → R Fl := gSeq (gIf (gT (gOp dGt (gOpL dIx 0 (gC (.int 0))) (gC (.int 0)))) (gSeq (gAsg 2 (gOp dMod (gUn dInt (gOpL dIx 0 (gC (.int 0)))) (gVar 1))) (gSeq (gSetIx 0 (gOp dDiv (gOpL dIx 0 (gC (.int 0))) (gVar 1)) (gC (.int 0))) (gRet (gVar 2)))) (gSkip)) (gSeq (gSetIx 0 (gOp dAdd (gOpL dIx 0 (gC (.int 2))) (gC (.int 1))) (gC (.int 2))) (gSeq (gSetIx 0 (gOp dMod (gUn dInt (gOp dAdd (gOp dAdd (gOp dMul (gOpL dIx 0 (gC (.int 1))) (gC (.int 52501))) (gOp dMul (gOp dMul (gOpL dIx 0 (gC (.int 2))) (gOpL dIx 0 (gC (.int 2)))) (gC (.int 1009)))) (gC (.int 77)))) (gC (.int 2147480009))) (gC (.int 1))) (gRet (gOp dMod (gUn dInt (gOp dDiv (gOpL dIx 0 (gC (.int 1))) (gC (.int 211)))) (gVar 1)))))
noncomputable def G__law_roll : List SV → RF := gDef 2 1 g__law_roll
noncomputable def g__law_pick : SS → R Fl := gRet (gOp dIx (gVar 1) (gOfR (gCallR 2 G__law_roll (gAgS 0 (gAgD (gUn dLen (gVar 1)) (gAg0))))))
noncomputable def G__law_pick : List SV → RF := gDef 2 0 g__law_pick
noncomputable def g__law_most_apart : SS → R Fl := gSeq (gAsgO 1 (gLst (gCons (gC (.int 0)) (gNil)))) (gSeq (gFor (gRange1 (gUn dMax (gD (gOpN cCat (gD (gLst (gCons (gC (.int 0)) (gNil)))) (gD (gLc [4] (gItT (gVar 0)) (fName 4) (gYes) (gOp dAdd (gOp dIx (gVar 4) (gC (.int 1))) (gC (.int 1))))))))) (fName 2) (gSeq (gAsg 3 (gD (gLc [5, 6] (gItT (gVar 0)) (fTup 2 (fCons (fName 5) (fCons (fName 6) (fNil)))) (gT (gOp dEq (gVar 6) (gVar 2))) (gOp dAdd (gOpL dIx 1 (gVar 5)) (gC (.int 1)))))) (gApO 1 (gUn dMax (gD (gOpN cCat (gD (gLst (gCons (gOpL dIx 1 (gUn dNeg (gC (.int 1)))) (gNil)))) (gVar 3))))))) (gFrz 1 (gRet (gOp dIx (gVar 1) (gUn dNeg (gC (.int 1)))))))
noncomputable def G__law_most_apart : List SV → RF := gDef 1 6 g__law_most_apart
noncomputable def g__law_is_due : SS → R Fl := gSeq (gIf (gOr (gNot (gT (gUn (dIsi "tuple") (gVar 1)))) (gOr (gT (gOp dNe (gUn dLen (gVar 1)) (gVar 2))) (gT (gOp dNe (gD (gLc [4] (gItT (gVar 1)) (fName 4) (gOr (gNot (gT (gUn (dIsi "int") (gVar 4)))) (gT (gUn (dIsi "bool") (gVar 4)))) (gVar 4))) (gD (gLst (gNil))))))) (gRet (gC (.bool false))) (gSkip)) (gSeq (gIf (gOr (gT (gOp dNe (gD (gUnN cList (gVar 1))) (gD (gUnN cSortSet (gVar 1))))) (gT (gOp dNe (gD (gLc [4] (gItT (gVar 1)) (fName 4) (gNot (gT (gChain dLe dLt (gC (.int 0)) (gVar 4) (gUn dLen (gVar 0))))) (gVar 4))) (gD (gLst (gNil)))))) (gRet (gC (.bool false))) (gSkip)) (gSeq (gAsg 3 (gD (gUnN cSorted (gD (gLc [4] (gItT (gVar 1)) (fName 4) (gYes) (gOp dIx (gVar 0) (gVar 4))))))) (gRet (gOp dEq (gD (gLc [4] (gBin dRng (gC (.int 1)) (gUn dLen (gVar 3))) (fName 4) (gT (gOp dLe (gOp dIx (gOp dIx (gVar 3) (gVar 4)) (gC (.int 0))) (gOp dIx (gOp dIx (gVar 3) (gOp dSub (gVar 4) (gC (.int 1)))) (gC (.int 1))))) (gVar 4))) (gD (gLst (gNil)))))))
noncomputable def G__law_is_due : List SV → RF := gDef 3 2 g__law_is_due
noncomputable def g__law_as_late : SS → R Fl := gSeq (gAsg 2 (gUn dNeg (gC (.int 1)))) (gSeq (gFor (gItT (gVar 1)) (fName 3) (gSeq (gAsg 4 (gD (gLc [5] (gItT (gVar 0)) (fName 5) (gT (gOp dGt (gOp dIx (gVar 5) (gC (.int 0))) (gVar 2))) (gVar 5)))) (gSeq (gIf (gT (gOp dNe (gVar 3) (gUn dMin (gD (gLc [5] (gItL (gVar 4)) (fName 5) (gYes) (gOp dIx (gVar 5) (gC (.int 1)))))))) (gRet (gC (.bool false))) (gSkip)) (gAsg 2 (gVar 3))))) (gRet (gOp dEq (gD (gLc [5] (gItT (gVar 0)) (fName 5) (gT (gOp dGt (gOp dIx (gVar 5) (gC (.int 0))) (gVar 2))) (gVar 5))) (gD (gLst (gNil))))))
noncomputable def G__law_as_late : List SV → RF := gDef 2 4 g__law_as_late
noncomputable def g__law_right : SS → R Fl := gSeq (gParO 1 2 (gOfR (gCallR 2 G__law_pick (gAgS 0 (gAgD (gD (gLst (gCons (gC (.int 5)) (gCons (gC (.int 20)) (gCons (gC (.int 100)) (gCons (gC (.int 1001)) (gNil))))))) (gAg0))))) (gLst (gNil))) (gSeq (gFor (gRange1 (gOfR (gCallR 2 G__law_pick (gAgS 0 (gAgD (gD (gLst (gCons (gC (.int 0)) (gCons (gC (.int 1)) (gCons (gC (.int 4)) (gCons (gC (.int 12)) (gCons (gC (.int 60)) (gNil)))))))) (gAg0)))))) (fName 3) (gSeq (gAsg 4 (gOfR (gCallR 2 G__law_roll (gAgS 0 (gAgD (gVar 1) (gAg0)))))) (gApO 2 (gTup (gCons (gVar 4) (gCons (gOp dMin2 (gC (.int 1000)) (gOp dAdd (gVar 4) (gOfR (gCallR 2 G__law_pick (gAgS 0 (gAgD (gD (gLst (gCons (gC (.int 0)) (gCons (gC (.int 1)) (gCons (gC (.int 4)) (gCons (gOfR (gCallR 2 G__law_roll (gAgS 0 (gAgD (gVar 1) (gAg0))))) (gNil))))))) (gAg0))))))) (gNil))))))) (gSeq (gFrz 2 (gAsg 5 (gUn dTuple (gVar 2)))) (gSeq (gPar3 6 7 8 (gOfR (gCallR 1 G_inspections (gAgD (gVar 5) (gAg0)))) (gOfR (gCallKN 1 0 1 [0] G_apart gAg0 (gAgD (gVar 5) (gAg0)))) (gOfR (gCallR 1 G__law_most_apart (gAgD (gVar 5) (gAg0))))) (gSeq (gIf (gOr (gT (gOp dNe (gUn dLen (gVar 6)) (gVar 8))) (gOr (gT (gOp dNe (gD (gUnN cList (gVar 6))) (gD (gUnN cSortSet (gVar 6))))) (gOr (gNot (gT (gOfR (gCallR 2 G__law_as_late (gAgD (gVar 5) (gAgD (gVar 6) (gAg0))))))) (gT (gOp dNe (gOfR (gCallKN 1 0 1 [0] G_inspections gAg0 (gAgD (gVar 5) (gAg0)))) (gVar 6)))))) (gRet (gC (.bool false))) (gSkip)) (gSeq (gIf (gOr (gNot (gT (gOfR (gCallR 3 G__law_is_due (gAgD (gVar 5) (gAgD (gVar 7) (gAgD (gVar 8) (gAg0)))))))) (gT (gOp dNotB (gOfR (gCallR 2 G_is_apart (gAgD (gVar 5) (gAgD (gVar 7) (gAg0))))) (gC (.bool true))))) (gRet (gC (.bool false))) (gSkip)) (gSeq (gFor (gRange1 (gC (.int 6))) (fName 3) (gSeq (gAsg 9 (gOfR (gCallR 2 G__law_roll (gAgS 0 (gAgD (gOp dAdd (gUn dLen (gVar 7)) (gC (.int 1))) (gAg0)))))) (gSeq (gAsg 10 (gOfR (gCallR 2 G__law_pick (gAgS 0 (gAgD (gD (gLst (gCons (gOp dAdd (gOp dAdd (gSl dSlT (gVar 7) (gPartN) (gPart (gVar 9))) (gTup (gCons (gOfR (gCallR 2 G__law_roll (gAgS 0 (gAgD (gOp dAdd (gUn dLen (gVar 5)) (gC (.int 1))) (gAg0))))) (gNil)))) (gSl dSlT (gVar 7) (gPart (gOp dAdd (gVar 9) (gC (.int 1)))) (gPartN))) (gCons (gUn dRevT (gVar 7)) (gCons (gSl dSlT (gVar 7) (gPartN) (gPart (gVar 9))) (gCons (gD (gUnN cList (gVar 7))) (gCons (gOp dAdd (gVar 7) (gTup (gCons (gC (.int 0)) (gNil)))) (gCons (gC .none) (gCons (gOp dAdd (gVar 7) (gVar 7)) (gNil)))))))))) (gAg0)))))) (gIf (gT (gOp dNe (gOfR (gCallKN 2 1 1 [0, 1] G_is_apart (gAgD (gVar 5) (gAg0)) (gAgD (gVar 10) (gAg0)))) (gOfR (gCallR 3 G__law_is_due (gAgD (gVar 5) (gAgD (gVar 10) (gAgD (gVar 8) (gAg0)))))))) (gRet (gC (.bool false))) (gSkip))))) (gSeq (gAsg 11 (gOfR (gCallR 2 G__law_pick (gAgS 0 (gAgD (gD (gLst (gCons (gC .none) (gCons (gD (gUnN cList (gVar 5))) (gCons (gTup (gCons (gTup (gCons (gC (.int 1)) (gCons (gC (.int 0)) (gNil)))) (gNil))) (gCons (gTup (gCons (gTup (gCons (gC (.int 0)) (gCons (gC (.int 1001)) (gNil)))) (gNil))) (gCons (gTup (gCons (gTup (gCons (gC (.int 0)) (gCons (gC (.int 1)) (gCons (gC (.int 1)) (gNil))))) (gNil))) (gCons (gOp dRepT (gTup (gCons (gTup (gCons (gC (.int 0)) (gCons (gC (.int 1)) (gNil)))) (gNil))) (gC (.int 61))) (gCons (gTup (gCons (gTup (gCons (gC (.bool true)) (gCons (gC (.int 1)) (gNil)))) (gNil))) (gNil)))))))))) (gAg0)))))) (gRet (gOp dEq (gD (gLst (gCons (gRef "BadArgument" "name" (gOfR (gCallR 1 G_inspections (gAgD (gVar 11) (gAg0))))) (gCons (gRef "BadArgument" "name" (gOfR (gCallR 1 G_apart (gAgD (gVar 11) (gAg0))))) (gCons (gRef "BadArgument" "name" (gOfR (gCallR 2 G_is_apart (gAgD (gVar 11) (gAgD (gTup (gNil)) (gAg0)))))) (gNil)))))) (gD (gOpN cRep (gD (gLst (gCons (gC (.str "times")) (gNil)))) (gC (.int 3)))))))))))))
noncomputable def G__law_right : List SV → RF := gDef 1 11 g__law_right
noncomputable def g_law : SS → R Fl := gSeq (gFor (gRange1 (gOp dMax2 (gC (.int 1)) (gOp dMin2 (gC (.int 8)) (gScrLen 0)))) (fName 1) (gIf (gNot (gT (gOfR (gCallR 1 G__law_right (gAgF (gOfRO (gCallR 2 G__law_dice (gAgS 0 (gAgD (gVar 1) (gAg0)))))))))) (gRet (gC (.bool false))) (gSkip))) (gRet (gAndV (gOp dEq (gOfR (gCallR 1 G_inspections (gAgD (gTup (gNil)) (gAg0)))) (gTup (gNil))) (gOp dEq (gOfR (gCallR 1 G_inspections (gAgD (gTup (gCons (gTup (gCons (gC (.int 0)) (gCons (gC (.int 5)) (gNil)))) (gCons (gTup (gCons (gC (.int 3)) (gCons (gC (.int 9)) (gNil)))) (gCons (gTup (gCons (gC (.int 6)) (gCons (gC (.int 7)) (gNil)))) (gNil))))) (gAg0)))) (gTup (gCons (gC (.int 5)) (gCons (gC (.int 7)) (gNil)))))))
noncomputable def G_law : List SV → RF := gDef 1 1 g_law
def TT (K : Frg) : List (Addr × Str) := [((He.cT K ("_law_right", none)).2, "_law_right.<locals>.<lambda>")]
structure Ft (P : Program) (K : Frg) (mg : Str → Option Value) (base : Heap) : Prop where
  n_abs : mg "abs" = none
  n_all : mg "all" = none
  n_bool : mg "bool" = none
  n_enumerate : mg "enumerate" = none
  n_int : mg "int" = none
  n_isinstance : mg "isinstance" = none
  n_len : mg "len" = none
  n_list : mg "list" = none
  n_max : mg "max" = none
  n_min : mg "min" = none
  n_range : mg "range" = none
  n_set : mg "set" = none
  n_sorted : mg "sorted" = none
  n_tuple : mg "tuple" = none
  n_zip : mg "zip" = none
  c_MOST_TIME : ∃ t, mg "MOST_TIME" = some (.int (1000) t)
  c_MOST_TIMES : ∃ t, mg "MOST_TIMES" = some (.int (60) t)
  d_is_integer : mg "is_integer" = some (.ref (He.fAd K ("is_integer", none)))
  F_is_integer : ∃ fd, FnP K "is_integer" s_is_integer (He.fAd K ("is_integer", none)) fd
  d_is_in : mg "is_in" = some (.ref (He.fAd K ("is_in", none)))
  F_is_in : ∃ fd, FnP K "is_in" s_is_in (He.fAd K ("is_in", none)) fd
  d_is_tuple_of : mg "is_tuple_of" = some (.ref (He.fAd K ("is_tuple_of", none)))
  F_is_tuple_of : ∃ fd, FnP K "is_tuple_of" s_is_tuple_of (He.fAd K ("is_tuple_of", none)) fd
  d_are_at_most : mg "are_at_most" = some (.ref (He.fAd K ("are_at_most", none)))
  F_are_at_most : ∃ fd, FnP K "are_at_most" s_are_at_most (He.fAd K ("are_at_most", none)) fd
  d_is_ascending : mg "is_ascending" = some (.ref (He.fAd K ("is_ascending", none)))
  F_is_ascending : ∃ fd, FnP K "is_ascending" s_is_ascending (He.fAd K ("is_ascending", none)) fd
  d_demand : mg "demand" = some (.ref (He.fAd K ("demand", none)))
  F_demand : ∃ fd, FnP K "demand" s_demand (He.fAd K ("demand", none)) fd
  d_are_indexes : mg "are_indexes" = some (.ref (He.fAd K ("are_indexes", none)))
  F_are_indexes : ∃ fd, FnP K "are_indexes" s_are_indexes (He.fAd K ("are_indexes", none)) fd
  d_is_time : mg "is_time" = some (.ref (He.fAd K ("is_time", none)))
  F_is_time : ∃ fd, FnP K "is_time" s_is_time (He.fAd K ("is_time", none)) fd
  d_are_times : mg "are_times" = some (.ref (He.fAd K ("are_times", none)))
  F_are_times : ∃ fd, FnP K "are_times" s_are_times (He.fAd K ("are_times", none)) fd
  d_inspect : mg "inspect" = some (.ref (He.fAd K ("inspect", none)))
  F_inspect : ∃ fd, FnP K "inspect" s_inspect (He.fAd K ("inspect", none)) fd
  d_inspections : mg "inspections" = some (.ref (He.fAd K ("inspections", none)))
  F_inspections : ∃ fd, FnP K "inspections" s_inspections (He.fAd K ("inspections", none)) fd
  d_apart : mg "apart" = some (.ref (He.fAd K ("apart", none)))
  F_apart : ∃ fd, FnP K "apart" s_apart (He.fAd K ("apart", none)) fd
  d_is_apart : mg "is_apart" = some (.ref (He.fAd K ("is_apart", none)))
  F_is_apart : ∃ fd, FnP K "is_apart" s_is_apart (He.fAd K ("is_apart", none)) fd
  d__law_dice : mg "_law_dice" = some (.ref (He.fAd K ("_law_dice", none)))
  F__law_dice : ∃ fd, FnP K "_law_dice" s__law_dice (He.fAd K ("_law_dice", none)) fd
  d__law_roll : mg "_law_roll" = some (.ref (He.fAd K ("_law_roll", none)))
  F__law_roll : ∃ fd, FnP K "_law_roll" s__law_roll (He.fAd K ("_law_roll", none)) fd
  d__law_pick : mg "_law_pick" = some (.ref (He.fAd K ("_law_pick", none)))
  F__law_pick : ∃ fd, FnP K "_law_pick" s__law_pick (He.fAd K ("_law_pick", none)) fd
  d__law_refused : mg "_law_refused" = some (.ref (He.fAd K ("_law_refused", none)))
  F__law_refused : ∃ fd, FnP K "_law_refused" s__law_refused (He.fAd K ("_law_refused", none)) fd
  d__law_most_apart : mg "_law_most_apart" = some (.ref (He.fAd K ("_law_most_apart", none)))
  F__law_most_apart : ∃ fd, FnP K "_law_most_apart" s__law_most_apart (He.fAd K ("_law_most_apart", none)) fd
  d__law_is_due : mg "_law_is_due" = some (.ref (He.fAd K ("_law_is_due", none)))
  F__law_is_due : ∃ fd, FnP K "_law_is_due" s__law_is_due (He.fAd K ("_law_is_due", none)) fd
  d__law_as_late : mg "_law_as_late" = some (.ref (He.fAd K ("_law_as_late", none)))
  F__law_as_late : ∃ fd, FnP K "_law_as_late" s__law_as_late (He.fAd K ("_law_as_late", none)) fd
  d__law_right : mg "_law_right" = some (.ref (He.fAd K ("_law_right", none)))
  F__law_right : ∃ fd, FnP K "_law_right" s__law_right (He.fAd K ("_law_right", none)) fd
  d_law : mg "law" = some (.ref (He.fAd K ("law", none)))
  F_law : ∃ fd, FnP K "law" s_law (He.fAd K ("law", none)) fd
  bad : ∃ C fI fd, ErrC P K mg "BadArgument" C fI "name" "self" "name" fd
  t__law_right : LamX.TabB base mg (He.codeOf K ("_law_right", none)) (He.cT K ("_law_right", none)).2
section
variable {P : Program} {w : World} {K : Frg} {mg : Str → Option Value} {base : Heap}
theorem mem__law_right : ((He.cT K ("_law_right", none)).2, ("_law_right.<locals>.<lambda>" : Str)) ∈ TT K := by simp [TT]
theorem uniq__law_right (Z : Ft P K mg base) : ∀ p ∈ TT K, p.1 = (He.cT K ("_law_right", none)).2 → p.2 = ("_law_right.<locals>.<lambda>" : Str) := fun p hp _ => by
  rcases List.mem_singleton.mp hp with rfl
  rfl
theorem d_is_integer (Z : Ft P K mg base) : DOk P w K mg base (TT K) 1 "is_integer" ["value"] s_is_integer G_is_integer := by
  obtain ⟨fd, F⟩ := Z.F_is_integer
  exact mk_D (gb := g_is_integer) Z.d_is_integer F sc_is_integer rfl (fun _ _ _ _ _ _ us hl => match us, hl with | [_], _ => rfl) (fun cdv hcdv A outer s H E hr => sts_one (st_ret (ev_and (ev_isi (ep_of (ev_var 0)) Z.n_isinstance Z.n_int (by decide +kernel)) (ev_one (ev_not (ev_isi (ep_of (ev_var 0)) Z.n_isinstance Z.n_bool (by decide +kernel)))))))
theorem d_is_in (Z : Ft P K mg base) : DOk P w K mg base (TT K) 2 "is_in" ["value", "low", "high"] s_is_in G_is_in := by
  obtain ⟨fd, F⟩ := Z.F_is_in
  exact mk_D (gb := g_is_in) Z.d_is_in F sc_is_in rfl (fun _ _ _ _ _ _ us hl => match us, hl with | [_, _, _], _ => rfl) (fun cdv hcdv A outer s H E hr => sts_one (st_ret (ev_and (ev_rvj (rv_callD (d_is_integer Z) (hr.mono (by decide)) (takes_of rfl rfl rfl rfl) (ag_d (ev_var 0) (ag_nil)))) (ev_one (ev_chain (op_leD hr.units) (op_leD hr.units) rd_ord.ok rd_ord.ok (ev_var 1) (ev_var 0) (ev_var 2))))))
theorem d_is_tuple_of (Z : Ft P K mg base) : DOk P w K mg base (TT K) 1 "is_tuple_of" ["value", "many"] s_is_tuple_of G_is_tuple_of := by
  obtain ⟨fd, F⟩ := Z.F_is_tuple_of
  exact mk_D (gb := g_is_tuple_of) Z.d_is_tuple_of F sc_is_tuple_of rfl (fun _ _ _ _ _ _ us hl => match us, hl with | [_, _], _ => rfl) (fun cdv hcdv A outer s H E hr => sts_one (st_ret (ev_and (ev_isi (ep_of (ev_var 0)) Z.n_isinstance Z.n_tuple (by decide +kernel)) (ev_one (ev_cmpR (op_eqP hr.units) rd_eq (ev_b1 call_len ok_len Z.n_len (by decide +kernel) (ep_of (ev_var 0))) (ep_of (ev_var 1)))))))
theorem d_are_at_most (Z : Ft P K mg base) : DOk P w K mg base (TT K) 1 "are_at_most" ["value", "many"] s_are_at_most G_are_at_most := by
  obtain ⟨fd, F⟩ := Z.F_are_at_most
  exact mk_D (gb := g_are_at_most) Z.d_are_at_most F sc_are_at_most rfl (fun _ _ _ _ _ _ us hl => match us, hl with | [_, _], _ => rfl) (fun cdv hcdv A outer s H E hr => sts_one (st_ret (ev_and (ev_isi (ep_of (ev_var 0)) Z.n_isinstance Z.n_tuple (by decide +kernel)) (ev_one (ev_cmpR (op_leD hr.units) rd_ord (ev_b1 call_len ok_len Z.n_len (by decide +kernel) (ep_of (ev_var 0))) (ep_of (ev_var 1)))))))
theorem d_is_ascending (Z : Ft P K mg base) : DOk P w K mg base (TT K) 1 "is_ascending" ["values"] s_is_ascending G_is_ascending := by
  obtain ⟨fd, F⟩ := Z.F_is_ascending
  exact mk_D (gb := g_is_ascending) Z.d_is_ascending F sc_is_ascending rfl (fun _ _ _ _ _ _ us hl => match us, hl with | [_], _ => rfl) (fun cdv hcdv A outer s H E hr => sts_one (st_ret (ev_b1 (cr_all rfl) ok_all Z.n_all (by decide +kernel) (ep_new (eo_lc (own := [("one", 1), ("two", 2)]) rfl sc_is_ascending.nd rfl (iv_zip (ev_var 0) (ev_slT (ev_var 0) (ov_some (ev_int)) (ov_none)) Z.n_zip) (blk_by (by kernel_rfl)) (fun _ _ _ _ _ => gv_tup rfl (gvs_cons (gv_name 1 sc_is_ascending.nd) (gvs_cons (gv_name 2 sc_is_ascending.nd) (gvs_nil)))) (fun _ _ _ _ _ => ptv_nil) (fun _ _ _ _ _ => ev_cmpR (op_ltD hr.units) rd_ord (ev_var 1) (ep_of (ev_var 2))))))))
theorem d_demand (Z : Ft P K mg base) : DOk P w K mg base (TT K) 3 "demand" ["is_good", "name"] s_demand G_demand := by
  obtain ⟨fd, F⟩ := Z.F_demand
  exact mk_D (gb := g_demand) Z.d_demand F sc_demand rfl (fun _ _ _ _ _ _ us hl => match us, hl with | [_, _], _ => rfl) (fun cdv hcdv A outer s H E hr => sts_one (st_if (tv_not (tv_of (ev_var 0))) (sts_one (st_raiseD Z.bad (hr.mono (by decide)) (takes_of rfl rfl rfl rfl) (ev_var 1))) (sts_nil)))
theorem d_are_indexes (Z : Ft P K mg base) : DOk P w K mg base (TT K) 3 "are_indexes" ["value", "many"] s_are_indexes G_are_indexes := by
  obtain ⟨fd, F⟩ := Z.F_are_indexes
  exact mk_D (gb := g_are_indexes) Z.d_are_indexes F sc_are_indexes rfl (fun _ _ _ _ _ _ us hl => match us, hl with | [_, _], _ => rfl) (fun cdv hcdv A outer s H E hr => sts_cons (st_if (tv_w (tw_or (tv_not (tv_of (ev_isi (ep_of (ev_var 0)) Z.n_isinstance Z.n_tuple (by decide +kernel)))) (tw_or1 (tv_not (tv_of (ev_b1 (cr_all rfl) ok_all Z.n_all (by decide +kernel) (ep_new (eo_lc (own := [("at", 2)]) rfl sc_are_indexes.nd rfl (iv_tup (ev_var 0)) (blk_by (by kernel_rfl)) (fun _ _ _ _ _ => gv_name 2 sc_are_indexes.nd) (fun _ _ _ _ _ => ptv_nil) (fun _ _ _ _ _ => ev_rvj (rv_callD (d_is_in Z) (hr.mono (by decide)) LamX.takes0 (ag_d (ev_var 2) (ag_d (ev_int) (ag_d (ev_op op_sub rd_sub.ok (ev_var 1) (ev_int)) (ag_nil)))))))))))))) (sts_one (st_ret (ev_bl))) (sts_nil)) (sts_one (st_ret (ev_rvj (rv_callD (d_is_ascending Z) (hr.mono (by decide)) (takes_of rfl rfl rfl rfl) (ag_d (ev_var 0) (ag_nil)))))))
theorem d_is_time (Z : Ft P K mg base) : DOk P w K mg base (TT K) 3 "is_time" ["value"] s_is_time G_is_time := by
  obtain ⟨fd, F⟩ := Z.F_is_time
  exact mk_D (gb := g_is_time) Z.d_is_time F sc_is_time rfl (fun _ _ _ _ _ _ us hl => match us, hl with | [_], _ => rfl) (fun cdv hcdv A outer s H E hr => sts_one (st_ret (ev_and (ev_rvj (rv_callD (d_is_tuple_of Z) (hr.mono (by decide)) (takes_of rfl rfl rfl rfl) (ag_d (ev_var 0) (ag_d (ev_int) (ag_nil))))) (ev_and (ev_rvj (rv_callD (d_is_in Z) (hr.mono (by decide)) (takes_of rfl rfl rfl rfl) (ag_d (ev_ix (ev_var 0) (ep_of (ev_int))) (ag_d (ev_int) (ag_d (ev_globI' Z.c_MOST_TIME) (ag_nil)))))) (ev_one (ev_rvj (rv_callD (d_is_in Z) (hr.mono (by decide)) (takes_of rfl rfl rfl rfl) (ag_d (ev_ix (ev_var 0) (ep_of (ev_int))) (ag_d (ev_ix (ev_var 0) (ep_of (ev_int))) (ag_d (ev_globI' Z.c_MOST_TIME) (ag_nil)))))))))))
theorem d_are_times (Z : Ft P K mg base) : DOk P w K mg base (TT K) 4 "are_times" ["value"] s_are_times G_are_times := by
  obtain ⟨fd, F⟩ := Z.F_are_times
  exact mk_D (gb := g_are_times) Z.d_are_times F sc_are_times rfl (fun _ _ _ _ _ _ us hl => match us, hl with | [_], _ => rfl) (fun cdv hcdv A outer s H E hr => sts_one (st_ret (ev_and (ev_rvj (rv_callD (d_are_at_most Z) (hr.mono (by decide)) (takes_of rfl rfl rfl rfl) (ag_d (ev_var 0) (ag_d (ev_globI' Z.c_MOST_TIMES) (ag_nil))))) (ev_one (ev_b1 (cr_all rfl) ok_all Z.n_all (by decide +kernel) (ep_new (eo_lc (own := [("time", 1)]) rfl sc_are_times.nd rfl (iv_tup (ev_var 0)) (blk_by (by kernel_rfl)) (fun _ _ _ _ _ => gv_name 1 sc_are_times.nd) (fun _ _ _ _ _ => ptv_nil) (fun _ _ _ _ _ => ev_rvj (rv_callD (d_is_time Z) (hr.mono (by decide)) LamX.takes0 (ag_d (ev_var 1) (ag_nil)))))))))))
theorem d_inspect (Z : Ft P K mg base) : DOk P w K mg base (TT K) 1 "inspect" ["times"] s_inspect G_inspect := by
  obtain ⟨fd, F⟩ := Z.F_inspect
  exact mk_D (gb := g_inspect) Z.d_inspect F sc_inspect rfl (fun _ _ _ _ _ _ us hl => match us, hl with | [_], _ => rfl) (fun cdv hcdv A outer s H E hr => sts_cons (st_parF 1 2 rfl rfl sc_inspect.nd (eo_lst (av_nil)) (ev_neg (ev_int)) (Nat.le_of_ble_eq_true rfl)) (sts_cons (st_for (vs := [3, 4]) (passes_of rfl) rfl (iv_list (ev_of (eo_b1 (cr_sortD hr.units) new_sorted Z.n_sorted (by decide +kernel) (ep_new (eo_lc (own := [("at", 4), ("time", 5)]) rfl sc_inspect.nd rfl (iv_enumT (ev_var 0) Z.n_enumerate) (blk_by (by kernel_rfl)) (fun _ _ _ _ _ => gv_tup rfl (gvs_cons (gv_name 4 sc_inspect.nd) (gvs_cons (gv_name 5 sc_inspect.nd) (gvs_nil)))) (fun _ _ _ _ _ => ptv_nil) (fun _ _ _ _ _ => ev_tup (av_cons (ev_ix (ev_var 5) (ep_of (ev_int))) (av_cons (ev_var 4) (av_nil))))))))) (gv_tup rfl (gvs_cons (gv_name 3 sc_inspect.nd) (gvs_cons (gv_name 4 sc_inspect.nd) (gvs_nil)))) (sts_one (st_if (tv_cmpR (op_gtD hr.units) rd_ord (ev_ix (ev_ix (ev_var 0) (ep_of (ev_var 4))) (ep_of (ev_int))) (ep_of (ev_var 2))) (sts_cons (st_app 1 (ev_tup (av_cons (ev_var 3) (av_cons (ev_var 4) (av_nil))))) (sts_one (st_set 2 sc_inspect.nd (ev_var 3)))) (sts_nil)))) (sts_one (st_retOwn 1 (Nat.le_of_ble_eq_true rfl)))))
theorem d_inspections (Z : Ft P K mg base) : DOk P w K mg base (TT K) 5 "inspections" ["times"] s_inspections G_inspections := by
  obtain ⟨fd, F⟩ := Z.F_inspections
  exact mk_D (gb := g_inspections) Z.d_inspections F sc_inspections rfl (fun _ _ _ _ _ _ us hl => match us, hl with | [_], _ => rfl) (fun cdv hcdv A outer s H E hr => sts_cons (st_expr (ev_rvj (rv_callD (d_demand Z) (hr.mono (by decide)) (takes_of rfl rfl rfl rfl) (ag_d (ev_rvj (rv_callD (d_are_times Z) (hr.mono (by decide)) (takes_of rfl rfl rfl rfl) (ag_d (ev_var 0) (ag_nil)))) (ag_d (ev_str) (ag_nil)))))) (sts_one (st_ret (ev_t1 call_tuple_of ok_tuple Z.n_tuple (by decide +kernel) (ep_new (eo_lc (own := [("pair", 1)]) rfl sc_inspections.nd rfl (iv_list (ev_of (eo_rvj (rv_callD (d_inspect Z) (hr.mono (by decide)) (takes_of rfl rfl rfl rfl) (ag_d (ev_var 0) (ag_nil)))))) (blk_by (by kernel_rfl)) (fun _ _ _ _ _ => gv_name 1 sc_inspections.nd) (fun _ _ _ _ _ => ptv_nil) (fun _ _ _ _ _ => ev_ix (ev_var 1) (ep_of (ev_int)))))))))
theorem d_apart (Z : Ft P K mg base) : DOk P w K mg base (TT K) 5 "apart" ["times"] s_apart G_apart := by
  obtain ⟨fd, F⟩ := Z.F_apart
  exact mk_D (gb := g_apart) Z.d_apart F sc_apart rfl (fun _ _ _ _ _ _ us hl => match us, hl with | [_], _ => rfl) (fun cdv hcdv A outer s H E hr => sts_cons (st_expr (ev_rvj (rv_callD (d_demand Z) (hr.mono (by decide)) (takes_of rfl rfl rfl rfl) (ag_d (ev_rvj (rv_callD (d_are_times Z) (hr.mono (by decide)) (takes_of rfl rfl rfl rfl) (ag_d (ev_var 0) (ag_nil)))) (ag_d (ev_str) (ag_nil)))))) (sts_one (st_ret (ev_t1 call_tuple_of ok_tuple Z.n_tuple (by decide +kernel) (ep_new (eo_b1 (cr_sortD hr.units) new_sorted Z.n_sorted (by decide +kernel) (ep_new (eo_lc (own := [("pair", 1)]) rfl sc_apart.nd rfl (iv_list (ev_of (eo_rvj (rv_callD (d_inspect Z) (hr.mono (by decide)) (takes_of rfl rfl rfl rfl) (ag_d (ev_var 0) (ag_nil)))))) (blk_by (by kernel_rfl)) (fun _ _ _ _ _ => gv_name 1 sc_apart.nd) (fun _ _ _ _ _ => ptv_nil) (fun _ _ _ _ _ => ev_ix (ev_var 1) (ep_of (ev_int)))))))))))
theorem d_is_apart (Z : Ft P K mg base) : DOk P w K mg base (TT K) 5 "is_apart" ["times", "value"] s_is_apart G_is_apart := by
  obtain ⟨fd, F⟩ := Z.F_is_apart
  exact mk_D (gb := g_is_apart) Z.d_is_apart F sc_is_apart rfl (fun _ _ _ _ _ _ us hl => match us, hl with | [_, _], _ => rfl) (fun cdv hcdv A outer s H E hr => sts_cons (st_expr (ev_rvj (rv_callD (d_demand Z) (hr.mono (by decide)) (takes_of rfl rfl rfl rfl) (ag_d (ev_rvj (rv_callD (d_are_times Z) (hr.mono (by decide)) (takes_of rfl rfl rfl rfl) (ag_d (ev_var 0) (ag_nil)))) (ag_d (ev_str) (ag_nil)))))) (sts_cons (st_if (tv_w (tw_or (tv_not (tv_of (ev_rvj (rv_callD (d_are_indexes Z) (hr.mono (by decide)) (takes_of rfl rfl rfl rfl) (ag_d (ev_var 1) (ag_d (ev_b1 call_len ok_len Z.n_len (by decide +kernel) (ep_of (ev_var 0))) (ag_nil))))))) (tw_or1 (tv_cmpR (op_neP hr.units) rd_eq (ev_b1 call_len ok_len Z.n_len (by decide +kernel) (ep_of (ev_var 1))) (ep_of (ev_b1 call_len ok_len Z.n_len (by decide +kernel) (ep_new (eo_rvj (rv_callD (d_inspect Z) (hr.mono (by decide)) (takes_of rfl rfl rfl rfl) (ag_d (ev_var 0) (ag_nil))))))))))) (sts_one (st_ret (ev_bl))) (sts_nil)) (sts_cons (st_set 2 sc_is_apart.nd (ev_of (eo_b1 (cr_sortD hr.units) new_sorted Z.n_sorted (by decide +kernel) (ep_new (eo_lc (own := [("at", 3)]) rfl sc_is_apart.nd rfl (iv_tup (ev_var 1)) (blk_by (by kernel_rfl)) (fun _ _ _ _ _ => gv_name 3 sc_is_apart.nd) (fun _ _ _ _ _ => ptv_nil) (fun _ _ _ _ _ => ev_ix (ev_var 0) (ep_of (ev_var 3)))))))) (sts_one (st_ret (ev_b1 (cr_all rfl) ok_all Z.n_all (by decide +kernel) (ep_new (eo_lc (own := [("one", 4), ("two", 5)]) rfl sc_is_apart.nd rfl (iv_zip (ev_var 2) (ev_of (eo_slL (ev_var 2) (ov_some (ev_int)) (ov_none))) Z.n_zip) (blk_by (by kernel_rfl)) (fun _ _ _ _ _ => gv_tup rfl (gvs_cons (gv_name 4 sc_is_apart.nd) (gvs_cons (gv_name 5 sc_is_apart.nd) (gvs_nil)))) (fun _ _ _ _ _ => ptv_nil) (fun _ _ _ _ _ => ev_cmpR (op_ltD hr.units) rd_ord (ev_ix (ev_var 4) (ep_of (ev_int))) (ep_of (ev_ix (ev_var 5) (ep_of (ev_int)))))))))))))
theorem d__law_dice (Z : Ft P K mg base) : DOk P w K mg base (TT K) 1 "_law_dice" ["script", "spot"] s__law_dice G__law_dice := by
  obtain ⟨fd, F⟩ := Z.F__law_dice
  exact mk_D (gb := g__law_dice) Z.d__law_dice F sc__law_dice rfl (fun _ _ _ _ _ _ us hl => match us, hl with | [_, _], _ => rfl) (fun cdv hcdv A outer s H E hr => sts_cons (st_set 2 sc__law_dice.nd (ev_if (tv_cmpR (op_ltD hr.units) rd_ord (ev_var 1) (ep_of (ev_scrLen 0 Z.n_len))) (ev_scrIx 0 (ev_var 1)) (ev_op op_addD ok_add (ev_op op_mul rd_mul.ok (ev_int) (ev_var 1)) (ev_int)))) (sts_cons (st_set 3 sc__law_dice.nd (ev_op op_addD ok_add (ev_int) (ev_op op_mul rd_mul.ok (ev_int) (ev_var 1)))) (sts_cons (st_for (vs := [4]) (passes_of rfl) rfl (iv_list (ev_of (eo_op op_cat new_cat (ev_of (eo_scrSl 0 (ov_none) (ov_some (ev_int)))) (ep_new (eo_lst (av_cons (ev_var 2) (av_nil))))))) (gv_name 4 sc__law_dice.nd) (sts_one (st_set 3 sc__law_dice.nd (ev_op op_mod rd_mod.ok (ev_t1 call_int1 ok_int Z.n_int (by decide +kernel) (ep_of (ev_op op_addD ok_add (ev_op op_mul rd_mul.ok (ev_var 3) (ev_int)) (ev_op op_mod rd_mod.ok (ev_t1 call_int1 ok_int Z.n_int (by decide +kernel) (ep_of (ev_var 4))) (ev_int))))) (ev_int))))) (sts_one (st_retO (eo_lst (av_cons (ev_if (tv_w (tw_or (tv_cmpR (op_ltD hr.units) rd_ord (ev_var 2) (ep_of (ev_int))) (tw_or1 (tv_cmpR (op_geD hr.units) rd_ord (ev_var 2) (ep_of (ev_op op_pow rd_pow.ok (ev_int) (ev_int))))))) (ev_b1 call_abs ok_abs Z.n_abs (by decide +kernel) (ep_of (ev_var 2))) (ev_int)) (av_cons (ev_var 3) (av_cons (ev_int) (av_nil))))))))))
theorem d__law_roll (Z : Ft P K mg base) : DOk P w K mg base (TT K) 1 "_law_roll" ["dice", "total"] s__law_roll G__law_roll := by
  obtain ⟨fd, F⟩ := Z.F__law_roll
  exact mk_D (gb := g__law_roll) Z.d__law_roll F sc__law_roll rfl (fun _ _ _ _ _ _ us hl => match us, hl with | [_, _], _ => rfl) (fun cdv hcdv A outer s H E hr => sts_cons (st_if (tv_cmpR (op_gtD hr.units) rd_ord (ev_ixO 0 (ev_int)) (ep_of (ev_int))) (sts_cons (st_set 2 sc__law_roll.nd (ev_op op_mod rd_mod.ok (ev_t1 call_int1 ok_int Z.n_int (by decide +kernel) (ep_of (ev_ixO 0 (ev_int)))) (ev_var 1))) (sts_cons (st_setIx 0 (ev_op op_fdiv rd_div.ok (ev_ixO 0 (ev_int)) (ev_var 1)) (ev_int)) (sts_one (st_ret (ev_var 2))))) (sts_nil)) (sts_cons (st_setIx 0 (ev_op op_addD ok_add (ev_ixO 0 (ev_int)) (ev_int)) (ev_int)) (sts_cons (st_setIx 0 (ev_op op_mod rd_mod.ok (ev_t1 call_int1 ok_int Z.n_int (by decide +kernel) (ep_of (ev_op op_addD ok_add (ev_op op_addD ok_add (ev_op op_mul rd_mul.ok (ev_ixO 0 (ev_int)) (ev_int)) (ev_op op_mul rd_mul.ok (ev_op op_mul rd_mul.ok (ev_ixO 0 (ev_int)) (ev_ixO 0 (ev_int))) (ev_int))) (ev_int)))) (ev_int)) (ev_int)) (sts_one (st_ret (ev_op op_mod rd_mod.ok (ev_t1 call_int1 ok_int Z.n_int (by decide +kernel) (ep_of (ev_op op_fdiv rd_div.ok (ev_ixO 0 (ev_int)) (ev_int)))) (ev_var 1)))))))
theorem d__law_pick (Z : Ft P K mg base) : DOk P w K mg base (TT K) 2 "_law_pick" ["dice", "things"] s__law_pick G__law_pick := by
  obtain ⟨fd, F⟩ := Z.F__law_pick
  exact mk_D (gb := g__law_pick) Z.d__law_pick F sc__law_pick rfl (fun _ _ _ _ _ _ us hl => match us, hl with | [_, _], _ => rfl) (fun cdv hcdv A outer s H E hr => sts_one (st_ret (ev_ix (ev_var 1) (ep_of (ev_rvj (rv_callD (d__law_roll Z) (hr.mono (by decide)) (takes_of rfl rfl rfl rfl) (ag_s 0 (ag_d (ev_b1 call_len ok_len Z.n_len (by decide +kernel) (ep_of (ev_var 1))) (ag_nil)))))))))
theorem d__law_most_apart (Z : Ft P K mg base) : DOk P w K mg base (TT K) 1 "_law_most_apart" ["times"] s__law_most_apart G__law_most_apart := by
  obtain ⟨fd, F⟩ := Z.F__law_most_apart
  exact mk_D (gb := g__law_most_apart) Z.d__law_most_apart F sc__law_most_apart rfl (fun _ _ _ _ _ _ us hl => match us, hl with | [_], _ => rfl) (fun cdv hcdv A outer s H E hr => sts_cons (st_setO 1 sc__law_most_apart.nd (eo_lst (av_cons (ev_int) (av_nil))) (Nat.le_of_ble_eq_true rfl)) (sts_cons (st_for (vs := [2]) (passes_of rfl) rfl (iv_range1 (ev_b1 (cr_max rfl) ok_max Z.n_max (by decide +kernel) (ep_new (eo_op op_cat new_cat (ev_of (eo_lst (av_cons (ev_int) (av_nil)))) (ep_new (eo_lc (own := [("time", 4)]) rfl sc__law_most_apart.nd rfl (iv_tup (ev_var 0)) (blk_by (by kernel_rfl)) (fun _ _ _ _ _ => gv_name 4 sc__law_most_apart.nd) (fun _ _ _ _ _ => ptv_nil) (fun _ _ _ _ _ => ev_op op_addD ok_add (ev_ix (ev_var 4) (ep_of (ev_int))) (ev_int))))))) Z.n_range) (gv_name 2 sc__law_most_apart.nd) (sts_cons (st_setLc (own := [("first", 5), ("last", 6)]) 3 rfl sc__law_most_apart.nd rfl (iv_tup (ev_var 0)) (blk_by (by kernel_rfl)) rfl (fun _ _ _ _ _ => gv_tup rfl (gvs_cons (gv_name 5 sc__law_most_apart.nd) (gvs_cons (gv_name 6 sc__law_most_apart.nd) (gvs_nil)))) (fun _ _ _ _ _ => ptv_one (tv_cmpR (op_eqP hr.units) rd_eq (ev_var 6) (ep_of (ev_var 2)))) (fun _ _ _ _ _ => ev_op op_addD ok_add (ev_ixO 1 (ev_var 5)) (ev_int))) (sts_one (st_app 1 (ev_b1 (cr_max rfl) ok_max Z.n_max (by decide +kernel) (ep_new (eo_op op_cat new_cat (ev_of (eo_lst (av_cons (ev_ixO 1 (ev_neg (ev_int))) (av_nil)))) (ep_of (ev_var 3))))))))) (sts_one (st_frz 1 (st_ret (ev_ix (ev_var 1) (ep_of (ev_neg (ev_int)))))))))
theorem d__law_is_due (Z : Ft P K mg base) : DOk P w K mg base (TT K) 1 "_law_is_due" ["times", "value", "many"] s__law_is_due G__law_is_due := by
  obtain ⟨fd, F⟩ := Z.F__law_is_due
  exact mk_D (gb := g__law_is_due) Z.d__law_is_due F sc__law_is_due rfl (fun _ _ _ _ _ _ us hl => match us, hl with | [_, _, _], _ => rfl) (fun cdv hcdv A outer s H E hr => sts_cons (st_if (tv_w (tw_or (tv_not (tv_of (ev_isi (ep_of (ev_var 1)) Z.n_isinstance Z.n_tuple (by decide +kernel)))) (tw_or (tv_cmpR (op_neP hr.units) rd_eq (ev_b1 call_len ok_len Z.n_len (by decide +kernel) (ep_of (ev_var 1))) (ep_of (ev_var 2))) (tw_or1 (tv_cmpR (op_neP hr.units) rd_eq (ev_of (eo_lc (own := [("at", 4)]) rfl sc__law_is_due.nd rfl (iv_tup (ev_var 1)) (blk_by (by kernel_rfl)) (fun _ _ _ _ _ => gv_name 4 sc__law_is_due.nd) (fun _ _ _ _ _ => ptv_one (tv_w (tw_or (tv_not (tv_of (ev_isi (ep_of (ev_var 4)) Z.n_isinstance Z.n_int (by decide +kernel)))) (tw_or1 (tv_of (ev_isi (ep_of (ev_var 4)) Z.n_isinstance Z.n_bool (by decide +kernel))))))) (fun _ _ _ _ _ => ev_var 4))) (ep_new (eo_lst (av_nil)))))))) (sts_one (st_ret (ev_bl))) (sts_nil)) (sts_cons (st_if (tv_w (tw_or (tv_cmpR (op_neP hr.units) rd_eq (ev_of (eo_t1 call_list_of new_list Z.n_list (by decide +kernel) (ep_of (ev_var 1)))) (ep_new (eo_sortSet (ev_var 1) rfl Z.n_sorted Z.n_set))) (tw_or1 (tv_cmpR (op_neP hr.units) rd_eq (ev_of (eo_lc (own := [("at", 4)]) rfl sc__law_is_due.nd rfl (iv_tup (ev_var 1)) (blk_by (by kernel_rfl)) (fun _ _ _ _ _ => gv_name 4 sc__law_is_due.nd) (fun _ _ _ _ _ => ptv_one (tv_not (tv_chain (op_leD hr.units) (op_ltD hr.units) rd_ord.ok rd_ord.ok (ev_int) (ev_var 4) (ev_b1 call_len ok_len Z.n_len (by decide +kernel) (ep_of (ev_var 0)))))) (fun _ _ _ _ _ => ev_var 4))) (ep_new (eo_lst (av_nil))))))) (sts_one (st_ret (ev_bl))) (sts_nil)) (sts_cons (st_set 3 sc__law_is_due.nd (ev_of (eo_b1 (cr_sortD hr.units) new_sorted Z.n_sorted (by decide +kernel) (ep_new (eo_lc (own := [("at", 4)]) rfl sc__law_is_due.nd rfl (iv_tup (ev_var 1)) (blk_by (by kernel_rfl)) (fun _ _ _ _ _ => gv_name 4 sc__law_is_due.nd) (fun _ _ _ _ _ => ptv_nil) (fun _ _ _ _ _ => ev_ix (ev_var 0) (ep_of (ev_var 4)))))))) (sts_one (st_ret (ev_cmpR (op_eqP hr.units) rd_eq (ev_of (eo_lc (own := [("at", 4)]) rfl sc__law_is_due.nd rfl (iv_range2 (ev_int) (ev_b1 call_len ok_len Z.n_len (by decide +kernel) (ep_of (ev_var 3))) Z.n_range) (blk_by (by kernel_rfl)) (fun _ _ _ _ _ => gv_name 4 sc__law_is_due.nd) (fun _ _ _ _ _ => ptv_one (tv_cmpR (op_leD hr.units) rd_ord (ev_ix (ev_ix (ev_var 3) (ep_of (ev_var 4))) (ep_of (ev_int))) (ep_of (ev_ix (ev_ix (ev_var 3) (ep_of (ev_op op_sub rd_sub.ok (ev_var 4) (ev_int)))) (ep_of (ev_int)))))) (fun _ _ _ _ _ => ev_var 4))) (ep_new (eo_lst (av_nil)))))))))
theorem d__law_as_late (Z : Ft P K mg base) : DOk P w K mg base (TT K) 1 "_law_as_late" ["times", "ticks"] s__law_as_late G__law_as_late := by
  obtain ⟨fd, F⟩ := Z.F__law_as_late
  exact mk_D (gb := g__law_as_late) Z.d__law_as_late F sc__law_as_late rfl (fun _ _ _ _ _ _ us hl => match us, hl with | [_, _], _ => rfl) (fun cdv hcdv A outer s H E hr => sts_cons (st_set 2 sc__law_as_late.nd (ev_neg (ev_int))) (sts_cons (st_for (vs := [3]) (passes_of rfl) rfl (iv_tup (ev_var 1)) (gv_name 3 sc__law_as_late.nd) (sts_cons (st_setLc (own := [("time", 5)]) 4 rfl sc__law_as_late.nd rfl (iv_tup (ev_var 0)) (blk_by (by kernel_rfl)) rfl (fun _ _ _ _ _ => gv_name 5 sc__law_as_late.nd) (fun _ _ _ _ _ => ptv_one (tv_cmpR (op_gtD hr.units) rd_ord (ev_ix (ev_var 5) (ep_of (ev_int))) (ep_of (ev_var 2)))) (fun _ _ _ _ _ => ev_var 5)) (sts_cons (st_if (tv_cmpR (op_neP hr.units) rd_eq (ev_var 3) (ep_of (ev_b1 (cr_min rfl) ok_min Z.n_min (by decide +kernel) (ep_new (eo_lc (own := [("time", 5)]) rfl sc__law_as_late.nd rfl (iv_list (ev_var 4)) (blk_by (by kernel_rfl)) (fun _ _ _ _ _ => gv_name 5 sc__law_as_late.nd) (fun _ _ _ _ _ => ptv_nil) (fun _ _ _ _ _ => ev_ix (ev_var 5) (ep_of (ev_int)))))))) (sts_one (st_ret (ev_bl))) (sts_nil)) (sts_one (st_set 2 sc__law_as_late.nd (ev_var 3)))))) (sts_one (st_ret (ev_cmpR (op_eqP hr.units) rd_eq (ev_of (eo_lc (own := [("time", 5)]) rfl sc__law_as_late.nd rfl (iv_tup (ev_var 0)) (blk_by (by kernel_rfl)) (fun _ _ _ _ _ => gv_name 5 sc__law_as_late.nd) (fun _ _ _ _ _ => ptv_one (tv_cmpR (op_gtD hr.units) rd_ord (ev_ix (ev_var 5) (ep_of (ev_int))) (ep_of (ev_var 2)))) (fun _ _ _ _ _ => ev_var 5))) (ep_new (eo_lst (av_nil))))))))
theorem d__law_right (Z : Ft P K mg base) : DOk P w K mg base (TT K) 8 "_law_right" ["dice"] s__law_right G__law_right := by
  obtain ⟨fd, F⟩ := Z.F__law_right
  obtain ⟨CE, fIE, fdE, Er⟩ := Z.bad
  exact mk_D (gb := g__law_right) Z.d__law_right F sc__law_right rfl (fun _ _ _ _ _ _ us hl => match us, hl with | [_], _ => rfl) (fun cdv hcdv A outer s H E hr => sts_cons (st_parO 1 2 rfl sc__law_right.nd (ev_rvj (rv_callD (d__law_pick Z) (hr.mono (by decide)) (takes_of rfl rfl rfl rfl) (ag_s 0 (ag_d (ev_of (eo_lst (av_cons (ev_int) (av_cons (ev_int) (av_cons (ev_int) (av_cons (ev_int) (av_nil))))))) (ag_nil))))) (eo_lst (av_nil)) (Nat.le_of_ble_eq_true rfl)) (sts_cons (st_for (vs := [3]) (passes_of rfl) rfl (iv_range1 (ev_rvj (rv_callD (d__law_pick Z) (hr.mono (by decide)) (takes_of rfl rfl rfl rfl) (ag_s 0 (ag_d (ev_of (eo_lst (av_cons (ev_int) (av_cons (ev_int) (av_cons (ev_int) (av_cons (ev_int) (av_cons (ev_int) (av_nil)))))))) (ag_nil))))) Z.n_range) (gv_name 3 sc__law_right.nd) (sts_cons (st_set 4 sc__law_right.nd (ev_rvj (rv_callD (d__law_roll Z) (hr.mono (by decide)) (takes_of rfl rfl rfl rfl) (ag_s 0 (ag_d (ev_var 1) (ag_nil)))))) (sts_one (st_app 2 (ev_tup (av_cons (ev_var 4) (av_cons (ev_b2 (call_min2 rfl) ok_min2 Z.n_min (by decide +kernel) (ev_int) (ep_of (ev_op op_addD ok_add (ev_var 4) (ev_rvj (rv_callD (d__law_pick Z) (hr.mono (by decide)) (takes_of rfl rfl rfl rfl) (ag_s 0 (ag_d (ev_of (eo_lst (av_cons (ev_int) (av_cons (ev_int) (av_cons (ev_int) (av_cons (ev_rvj (rv_callD (d__law_roll Z) (hr.mono (by decide)) (takes_of rfl rfl rfl rfl) (ag_s 0 (ag_d (ev_var 1) (ag_nil))))) (av_nil))))))) (ag_nil)))))))) (av_nil)))))))) (sts_cons (st_frz 2 (st_set 5 sc__law_right.nd (ev_t1 call_tuple_of ok_tuple Z.n_tuple (by decide +kernel) (ep_of (ev_var 2))))) (sts_cons (st_par3 6 7 8 rfl sc__law_right.nd (ev_rvj (rv_callD (d_inspections Z) (hr.mono (by decide)) (takes_of rfl rfl rfl rfl) (ag_d (ev_var 5) (ag_nil)))) (ev_rvj (rv_callKD0 ["times"] [0] (d_apart Z) (hr.mono (by decide)) (takes_of rfl rfl rfl rfl) (fun _ _ _ _ _ _ us ws h1 h2 => match us, ws, h1, h2 with | [], [_], _, _ => rfl) (agk_d (ev_var 5) (agk_nil)))) (ev_rvj (rv_callD (d__law_most_apart Z) (hr.mono (by decide)) (takes_of rfl rfl rfl rfl) (ag_d (ev_var 5) (ag_nil))))) (sts_cons (st_if (tv_w (tw_or (tv_cmpR (op_neP hr.units) rd_eq (ev_b1 call_len ok_len Z.n_len (by decide +kernel) (ep_of (ev_var 6))) (ep_of (ev_var 8))) (tw_or (tv_cmpR (op_neP hr.units) rd_eq (ev_of (eo_t1 call_list_of new_list Z.n_list (by decide +kernel) (ep_of (ev_var 6)))) (ep_new (eo_sortSet (ev_var 6) rfl Z.n_sorted Z.n_set))) (tw_or (tv_not (tv_of (ev_rvj (rv_callD (d__law_as_late Z) (hr.mono (by decide)) (takes_of rfl rfl rfl rfl) (ag_d (ev_var 5) (ag_d (ev_var 6) (ag_nil))))))) (tw_or1 (tv_cmpR (op_neP hr.units) rd_eq (ev_rvj (rv_callKD0 ["times"] [0] (d_inspections Z) (hr.mono (by decide)) (takes_of rfl rfl rfl rfl) (fun _ _ _ _ _ _ us ws h1 h2 => match us, ws, h1, h2 with | [], [_], _, _ => rfl) (agk_d (ev_var 5) (agk_nil)))) (ep_of (ev_var 6)))))))) (sts_one (st_ret (ev_bl))) (sts_nil)) (sts_cons (st_if (tv_w (tw_or (tv_not (tv_of (ev_rvj (rv_callD (d__law_is_due Z) (hr.mono (by decide)) (takes_of rfl rfl rfl rfl) (ag_d (ev_var 5) (ag_d (ev_var 7) (ag_d (ev_var 8) (ag_nil)))))))) (tw_or1 (tv_cmpR (op_notBl) rd_notB (ev_rvj (rv_callD (d_is_apart Z) (hr.mono (by decide)) (takes_of rfl rfl rfl rfl) (ag_d (ev_var 5) (ag_d (ev_var 7) (ag_nil))))) (ep_of (ev_bl)))))) (sts_one (st_ret (ev_bl))) (sts_nil)) (sts_cons (st_for (vs := [3]) (passes_of rfl) rfl (iv_range1 (ev_int) Z.n_range) (gv_name 3 sc__law_right.nd) (sts_cons (st_set 9 sc__law_right.nd (ev_rvj (rv_callD (d__law_roll Z) (hr.mono (by decide)) (takes_of rfl rfl rfl rfl) (ag_s 0 (ag_d (ev_op op_addD ok_add (ev_b1 call_len ok_len Z.n_len (by decide +kernel) (ep_of (ev_var 7))) (ev_int)) (ag_nil)))))) (sts_cons (st_set 10 sc__law_right.nd (ev_rvj (rv_callD (d__law_pick Z) (hr.mono (by decide)) (takes_of rfl rfl rfl rfl) (ag_s 0 (ag_d (ev_of (eo_lst (av_cons (ev_op op_addD ok_add (ev_op op_addD ok_add (ev_slT (ev_var 7) (ov_none) (ov_some (ev_var 9))) (ev_tup (av_cons (ev_rvj (rv_callD (d__law_roll Z) (hr.mono (by decide)) (takes_of rfl rfl rfl rfl) (ag_s 0 (ag_d (ev_op op_addD ok_add (ev_b1 call_len ok_len Z.n_len (by decide +kernel) (ep_of (ev_var 5))) (ev_int)) (ag_nil))))) (av_nil)))) (ev_slT (ev_var 7) (ov_some (ev_op op_addD ok_add (ev_var 9) (ev_int))) (ov_none))) (av_cons (ev_revT (ev_var 7)) (av_cons (ev_slT (ev_var 7) (ov_none) (ov_some (ev_var 9))) (av_cons (ev_of (eo_t1 call_list_of new_list Z.n_list (by decide +kernel) (ep_of (ev_var 7)))) (av_cons (ev_op op_addD ok_add (ev_var 7) (ev_tup (av_cons (ev_int) (av_nil)))) (av_cons (ev_non) (av_cons (ev_op op_addD ok_add (ev_var 7) (ev_var 7)) (av_nil)))))))))) (ag_nil)))))) (sts_one (st_if (tv_cmpR (op_neP hr.units) rd_eq (ev_rvj (rv_callKD ["value"] 1 [0, 1] (d_is_apart Z) (hr.mono (by decide)) (takes_of rfl rfl rfl rfl) (fun _ _ _ _ _ _ us ws h1 h2 => match us, ws, h1, h2 with | [_], [_], _, _ => rfl) (ag_d (ev_var 5) (ag_nil)) (agk_d (ev_var 10) (agk_nil)))) (ep_of (ev_rvj (rv_callD (d__law_is_due Z) (hr.mono (by decide)) (takes_of rfl rfl rfl rfl) (ag_d (ev_var 5) (ag_d (ev_var 10) (ag_d (ev_var 8) (ag_nil)))))))) (sts_one (st_ret (ev_bl))) (sts_nil)))))) (sts_cons (st_set 11 sc__law_right.nd (ev_rvj (rv_callD (d__law_pick Z) (hr.mono (by decide)) (takes_of rfl rfl rfl rfl) (ag_s 0 (ag_d (ev_of (eo_lst (av_cons (ev_non) (av_cons (ev_of (eo_t1 call_list_of new_list Z.n_list (by decide +kernel) (ep_of (ev_var 5)))) (av_cons (ev_tup (av_cons (ev_tup (av_cons (ev_int) (av_cons (ev_int) (av_nil)))) (av_nil))) (av_cons (ev_tup (av_cons (ev_tup (av_cons (ev_int) (av_cons (ev_int) (av_nil)))) (av_nil))) (av_cons (ev_tup (av_cons (ev_tup (av_cons (ev_int) (av_cons (ev_int) (av_cons (ev_int) (av_nil))))) (av_nil))) (av_cons (ev_op op_repT ok_repT (ev_tup (av_cons (ev_tup (av_cons (ev_int) (av_cons (ev_int) (av_nil)))) (av_nil))) (ev_int)) (av_cons (ev_tup (av_cons (ev_tup (av_cons (ev_bl) (av_cons (ev_int) (av_nil)))) (av_nil))) (av_nil)))))))))) (ag_nil)))))) (sts_one (st_ret (ev_cmpR (op_eqP hr.units) rd_eq (ev_of (eo_lst (av_cons (ev_refD (k := 5) Er Z.d__law_refused Z.F__law_refused (fun _ _ _ _ _ _ us hl => match us, hl with | [_], _ => rfl) sc__law_refused rfl (.inl rfl) rfl rfl rfl rfl rfl (fun _ _ _ => rfl) (fun _ _ _ => rfl) Z.t__law_right hcdv mem__law_right (uniq__law_right Z) (hr.mono (by decide)) (LamX.lamS_by (by kernel_rfl)) rfl (fun _ _ _ _ _ => rfl) (fun A outer s H E f c' hr => ev_rvj (rv_callD (d_inspections Z) (hr.mono (by decide)) (takes_of rfl rfl rfl rfl) (ag_d (ev_var 11) (ag_nil))))) (av_cons (ev_refD (k := 5) Er Z.d__law_refused Z.F__law_refused (fun _ _ _ _ _ _ us hl => match us, hl with | [_], _ => rfl) sc__law_refused rfl (.inl rfl) rfl rfl rfl rfl rfl (fun _ _ _ => rfl) (fun _ _ _ => rfl) Z.t__law_right hcdv mem__law_right (uniq__law_right Z) (hr.mono (by decide)) (LamX.lamS_by (by kernel_rfl)) rfl (fun _ _ _ _ _ => rfl) (fun A outer s H E f c' hr => ev_rvj (rv_callD (d_apart Z) (hr.mono (by decide)) (takes_of rfl rfl rfl rfl) (ag_d (ev_var 11) (ag_nil))))) (av_cons (ev_refD (k := 5) Er Z.d__law_refused Z.F__law_refused (fun _ _ _ _ _ _ us hl => match us, hl with | [_], _ => rfl) sc__law_refused rfl (.inl rfl) rfl rfl rfl rfl rfl (fun _ _ _ => rfl) (fun _ _ _ => rfl) Z.t__law_right hcdv mem__law_right (uniq__law_right Z) (hr.mono (by decide)) (LamX.lamS_by (by kernel_rfl)) rfl (fun _ _ _ _ _ => rfl) (fun A outer s H E f c' hr => ev_rvj (rv_callD (d_is_apart Z) (hr.mono (by decide)) (takes_of rfl rfl rfl rfl) (ag_d (ev_var 11) (ag_d (ev_tup (av_nil)) (ag_nil)))))) (av_nil)))))) (ep_new (eo_op op_rep new_rep (ev_of (eo_lst (av_cons (ev_str) (av_nil)))) (ep_of (ev_int)))))))))))))))
theorem d_law (Z : Ft P K mg base) : DOk P w K mg base (TT K) 9 "law" ["script"] s_law G_law := by
  obtain ⟨fd, F⟩ := Z.F_law
  exact mk_D (gb := g_law) Z.d_law F sc_law rfl (fun _ _ _ _ _ _ us hl => match us, hl with | [_], _ => rfl) (fun cdv hcdv A outer s H E hr => sts_cons (st_for (vs := [1]) (passes_of rfl) rfl (iv_range1 (ev_b2 (call_max2 rfl) ok_max2 Z.n_max (by decide +kernel) (ev_int) (ep_of (ev_b2 (call_min2 rfl) ok_min2 Z.n_min (by decide +kernel) (ev_int) (ep_of (ev_scrLen 0 Z.n_len))))) Z.n_range) (gv_name 1 sc_law.nd) (sts_one (st_if (tv_not (tv_of (ev_rvj (rv_callD (d__law_right Z) (hr.mono (by decide)) (takes_of rfl rfl rfl rfl) (ag_f (eo_rvj (rv_callD (d__law_dice Z) (hr.mono (by decide)) (takes_of rfl rfl rfl rfl) (ag_s 0 (ag_d (ev_var 1) (ag_nil)))))))))) (sts_one (st_ret (ev_bl))) (sts_nil)))) (sts_one (st_ret (ev_and (ev_cmpR (op_eqP hr.units) rd_eq (ev_rvj (rv_callD (d_inspections Z) (hr.mono (by decide)) (takes_of rfl rfl rfl rfl) (ag_d (ev_tup (av_nil)) (ag_nil)))) (ep_of (ev_tup (av_nil)))) (ev_one (ev_cmpR (op_eqP hr.units) rd_eq (ev_rvj (rv_callD (d_inspections Z) (hr.mono (by decide)) (takes_of rfl rfl rfl rfl) (ag_d (ev_tup (av_cons (ev_tup (av_cons (ev_int) (av_cons (ev_int) (av_nil)))) (av_cons (ev_tup (av_cons (ev_int) (av_cons (ev_int) (av_nil)))) (av_cons (ev_tup (av_cons (ev_int) (av_cons (ev_int) (av_nil)))) (av_nil))))) (ag_nil)))) (ep_of (ev_tup (av_cons (ev_int) (av_cons (ev_int) (av_nil)))))))))))
end
end Kk37
set_option Elab.async false
set_option linter.all false
set_option maxRecDepth 100000
set_option maxHeartbeats 1000000
namespace Kk37
open PySem PySem.Spec PyProof.Rows L2 DL
/-! the dice -/
/-- dice that were rolled n times at most -/
def Dice (n : Nat) (o : OC) : Prop := ∃ b m c : Int, o = .l [.int b, .int m, .int c] ∧ 0 ≤ b ∧ 0 ≤ m ∧ m < 2147480009 ∧ 0 ≤ c ∧ c ≤ n
theorem Dice.mono {n k : Nat} {o : OC} (h : Dice n o) (hk : n ≤ k) : Dice k o := by
  obtain ⟨b, m, c, e, h1, h2, h3, h4, h5⟩ := h
  exact ⟨b, m, c, e, h1, h2, h3, h4, by omega⟩
theorem S_roll {n : Nat} {o : OC} {t : Int} (h : Dice n o) (hn : n < 1000000000000) (ht : 0 < t) (ht2 : t < 1073741824) :
    ∃ r o', G__law_roll [.o o, .d (.int t)] = .ok (.d (.int r)) [some o', none] ∧ 0 ≤ r ∧ r < t ∧ Dice (n + 1) o' := by
  obtain ⟨b, m, c, rfl, h1, h2, h3, h4, h5⟩ := h
  have e0 : ∀ x y z : D, dIx (.list [x, y, z]) (.int 0) = some x := fun _ _ _ => rfl
  have e1 : ∀ x y z : D, dIx (.list [x, y, z]) (.int 1) = some y := fun _ _ _ => rfl
  have e2 : ∀ x y z : D, dIx (.list [x, y, z]) (.int 2) = some z := fun _ _ _ => rfl
  have i0 : ixN 3 0 = some 0 := rfl
  have i1 : ixN 3 1 = some 1 := rfl
  have i2 : ixN 3 2 = some 2 := rfl
  have bd : ∀ x : Int, 0 ≤ x → x < 18446744073709551616 → -(2 ^ 64) < x ∧ x < 2 ^ 64 := fun x a b => ⟨by omega, by omega⟩
  by_cases hb : 0 < b
  · refine ⟨b % t, .l [.int (b / t), .int m, .int c], ?_, Int.emod_nonneg _ (by omega), Int.emod_lt_of_pos _ ht, b / t, m, c, rfl, Int.ediv_nonneg h1 (by omega), h2, h3, h4, by omega⟩
    simp [G__law_roll, g__law_roll, e0, hb, dMod_ii ht, dDiv_ii ⟨ht, ht2⟩, i0]
  · have hc : (0 : Int) ≤ c + 1 := by omega
    have hc2 : c + 1 < 18446744073709551616 := by omega
    refine ⟨((m * 52501 + (c + 1) * (c + 1) * 1009 + 77) % 2147480009 / 211) % t, .l [.int b, .int ((m * 52501 + (c + 1) * (c + 1) * 1009 + 77) % 2147480009), .int (c + 1)], ?_, Int.emod_nonneg _ (by omega), Int.emod_lt_of_pos _ ht, b, _, c + 1, rfl, h1, Int.emod_nonneg _ (by omega), Int.emod_lt_of_pos _ (by omega), hc, by omega⟩
    have k1 : dMul (.int m) (.int 52501) = some (.int (m * 52501)) := dMul_ii (.inr (by decide))
    have k2 : dMul (.int (c + 1)) (.int (c + 1)) = some (.int ((c + 1) * (c + 1))) := dMul_ii (.inl (bd _ hc hc2))
    have k3 : dMul (.int ((c + 1) * (c + 1))) (.int 1009) = some (.int ((c + 1) * (c + 1) * 1009)) := dMul_ii (.inr (by decide))
    simp [G__law_roll, g__law_roll, e0, e1, e2, hb, i0, i1, i2, dMod_ii, dDiv_ii, ht, k1, k2, k3]
/-- a thing of a list is picked -/
theorem S_pick {n : Nat} {o : OC} {xs : List D} (h : Dice n o) (hn : n < 1000000000000) (hx : xs ≠ []) (hl : xs.length < 1000) :
    ∃ x o', G__law_pick [.o o, .d (.list xs)] = .ok (.d x) [some o', none] ∧ x ∈ xs ∧ Dice (n + 1) o' := by
  have hp : 0 < xs.length := List.length_pos_iff.mpr hx
  obtain ⟨r, o', e, r1, r2, r3⟩ := S_roll (t := (xs.length : Nat)) h hn (by omega) (by omega)
  obtain ⟨j, rfl⟩ : ∃ j : Nat, r = (j : Int) := ⟨r.toNat, by omega⟩
  have hj : j < xs.length := by omega
  refine ⟨xs[j], o', ?_, List.getElem_mem hj, r3⟩
  simp [G__law_pick, g__law_pick, e, dIx_l (List.getElem?_eq_getElem hj)]
def cutN {α : Type} (xs : List α) (lo hi : Option Int) : List α := (xs.drop (HT.sIx xs.length 0 lo)).take (HT.sIx xs.length xs.length hi - HT.sIx xs.length 0 lo)
theorem cutD_map {α : Type} (f : α → D) (xs : List α) (lo hi : Option Int)   : DL.cutD (xs.map f) lo hi = (cutN xs lo hi).map f := by
  unfold DL.cutD cutN
  rw [List.length_map, List.map_take, List.map_drop]
theorem cutN_le {α : Type} (xs : List α) (lo hi : Option Int) : (cutN xs lo hi).length ≤ xs.length := by
  unfold cutN
  rw [List.length_take, List.length_drop]
  omega
theorem S_dice {ns : List Int} {i : Nat} (hl : ns.length ≤ 63) : ∃ o, G__law_dice [.q ns, .d (.int (i : Nat))] = .ok (.o o) [none, none] ∧ Dice 0 o := by
  have main : ∀ own : Int, ∃ m v : Int, 0 ≤ m ∧ m < 2147480009 ∧ ∃ x : SV, forLoop (fName 4) (gAsg 3 (gOp dMod (gUn dInt (gOp dAdd (gOp dMul (gVar 3) (gC (.int 48271))) (gOp dMod (gUn dInt (gVar 4)) (gC (.int 2147480009))))) (gC (.int 2147480009))))
      ((cutN ns none (some 6) ++ [own]).map PyData.int) [some (.q ns), some (.d (.int (i : Nat))), some (.d (.int own)), some (.d (.int (910003 + 7907 * (i : Nat)))), none] = .ok .nx [some (.q ns), some (.d (.int (i : Nat))), some (.d (.int own)), some (.d (.int m)), some x] := fun own => by
    obtain ⟨fl, δ, e, h⟩ := for_run (B := fun _ => False) (T := fun _ _ => False) ((cutN ns none (some 6) ++ [own]).map PyData.int)
      (fun j δ => ∃ (m : Int) (x : Option SV), δ = [some (.q ns), some (.d (.int (i : Nat))), some (.d (.int own)), some (.d (.int m)), x] ∧ (0 < j → (0 ≤ m ∧ m < 2147480009) ∧ x.isSome = true))
      [some (.q ns), some (.d (.int (i : Nat))), some (.d (.int own)), some (.d (.int (910003 + 7907 * (i : Nat)))), none] ⟨_, _, rfl, fun z => absurd z (by omega)⟩
      (tg := fName 4) (gb := gAsg 3 (gOp dMod (gUn dInt (gOp dAdd (gOp dMul (gVar 3) (gC (.int 48271))) (gOp dMod (gUn dInt (gVar 4)) (gC (.int 2147480009))))) (gC (.int 2147480009))))
      (fun j d δ hd ⟨m, x, e, _⟩ => by
        subst e
        obtain ⟨c, hc, rfl⟩ := List.mem_map.mp (List.mem_of_getElem? hd)
        have k1 : dMul (.int m) (.int 48271) = some (.int (m * 48271)) := dMul_ii (.inr (by decide))
        refine ⟨[some (.q ns), some (.d (.int (i : Nat))), some (.d (.int own)), some (.d (.int m)), some (.d (.int c))], rfl, .nx, [some (.q ns), some (.d (.int (i : Nat))), some (.d (.int own)), some (.d (.int ((m * 48271 + c % 2147480009) % 2147480009))), some (.d (.int c))], by simp [k1, dMod_ii],
          _, _, rfl, fun _ => ⟨⟨Int.emod_nonneg _ (by omega), Int.emod_lt_of_pos _ (by omega)⟩, rfl⟩⟩)
    cases fl with
    | nx =>
      rcases h with ⟨m, x, rfl, hm⟩ | h
      · obtain ⟨⟨h1, h2⟩, h3⟩ := hm (by simp)
        cases x with
        | none => cases h3
        | some x => exact ⟨m, 0, h1, h2, x, e⟩
      · exact h.elim
    | bk => exact h.elim
    | ct => exact h.elim
    | rt v => exact h.elim
  have p16 : dPow (.int 10) (.int 16) = some (.int 10000000000000000) := by rfl
  have k0 : dMul (.int 7907) (.int (i : Nat)) = some (.int (7907 * (i : Nat))) := dMul_ii (.inl (by decide))
  have k9 : dMul (.int 733) (.int (i : Nat)) = some (.int (733 * (i : Nat))) := dMul_ii (.inl (by decide))
  have cl := cutN_le ns none (some 6)
  have cc : ∀ own : Int, cCat (.list ((cutN ns none (some 6)).map PyData.int)) (.list [.int own]) = some (.l ((cutN ns none (some 6) ++ [own]).map PyData.int)) := fun own => by
    show (if ((cutN ns none (some 6)).map PyData.int).length + [PyData.int own].length ≤ sizeLine then some (OC.l ((cutN ns none (some 6)).map PyData.int ++ [.int own])) else none) = _
    rw [if_pos (small_line (by simp; omega))]
    simp
  have own : ∃ own : Int, (gIfE (gT (gOp dLt (gVar 1) (gScrLen 0))) (gScrIx 0 (gVar 1)) (gOp dAdd (gOp dMul (gC (.int 733)) (gVar 1)) (gC (.int 29)))) [some (.q ns), some (.d (.int (i : Nat))), none, none, none] = .ok (.int own) [some (.q ns), some (.d (.int (i : Nat))), none, none, none] := by
    by_cases hi : i < ns.length
    · refine ⟨ns[i], ?_⟩
      have z : dIx (.list (ns.map PyData.int)) (.int (i : Nat)) = some (.int ns[i]) := dIx_l (by simp [hi])
      simp [hi, z]
    · exact ⟨733 * (i : Nat) + 29, by simp [hi, k9]⟩
  obtain ⟨own, eown⟩ := own
  obtain ⟨m, v, h1, h2, x, e⟩ := main own
  have hb : ∃ b : Int, 0 ≤ b ∧ (gIfE (gOr (gT (gOp dLt (gVar 2) (gC (.int 0)))) (gT (gOp dGe (gVar 2) (gOp dPow (gC (.int 10)) (gC (.int 16)))))) (gUn dAbs (gVar 2)) (gC (.int 0))) [some (.q ns), some (.d (.int (i : Nat))), some (.d (.int own)), some (.d (.int m)), some x]
      = .ok (.int b) [some (.q ns), some (.d (.int (i : Nat))), some (.d (.int own)), some (.d (.int m)), some x] := by
    by_cases c1 : own < 0
    · exact ⟨-own, by omega, by simp [c1, p16, dAbs]⟩
    · by_cases c2 : 10000000000000000 ≤ own
      · exact ⟨own, by omega, by simp [c1, c2, p16, dAbs]⟩
      · exact ⟨0, by omega, by simp [c1, c2, p16, dAbs]⟩
  obtain ⟨b, hb0, eb⟩ := hb
  refine ⟨.l [.int b, .int m, .int 0], ?_, b, m, 0, rfl, hb0, h1, h2, by omega, by omega⟩
  have hA : (gAsg 2 (gIfE (gT (gOp dLt (gVar 1) (gScrLen 0))) (gScrIx 0 (gVar 1)) (gOp dAdd (gOp dMul (gC (.int 733)) (gVar 1)) (gC (.int 29))))) [some (.q ns), some (.d (.int (i : Nat))), none, none, none] = .ok .nx [some (.q ns), some (.d (.int (i : Nat))), some (.d (.int own)), none, none] := by
    rw [gAsg_ap, eown]
    rfl
  have hB : (gAsg 3 (gOp dAdd (gC (.int 910003)) (gOp dMul (gC (.int 7907)) (gVar 1)))) [some (.q ns), some (.d (.int (i : Nat))), some (.d (.int own)), none, none] = .ok .nx [some (.q ns), some (.d (.int (i : Nat))), some (.d (.int own)), some (.d (.int (910003 + 7907 * (i : Nat)))), none] := by
    simp [k0]
  have hI : gItL (gD (gOpN cCat (gD (gScrSl 0 gPartN (gPart (gC (.int 6))))) (gD (gLst (gCons (gVar 2) gNil))))) [some (.q ns), some (.d (.int (i : Nat))), some (.d (.int own)), some (.d (.int (910003 + 7907 * (i : Nat)))), none]
      = .ok ((cutN ns none (some 6) ++ [own]).map PyData.int) [some (.q ns), some (.d (.int (i : Nat))), some (.d (.int own)), some (.d (.int (910003 + 7907 * (i : Nat)))), none] := by
    simp [cSlL, cutD_map, cc]
  have hD : gRetO (gLst (gCons (gIfE (gOr (gT (gOp dLt (gVar 2) (gC (.int 0)))) (gT (gOp dGe (gVar 2) (gOp dPow (gC (.int 10)) (gC (.int 16)))))) (gUn dAbs (gVar 2)) (gC (.int 0))) (gCons (gVar 3) (gCons (gC (.int 0)) gNil)))) [some (.q ns), some (.d (.int (i : Nat))), some (.d (.int own)), some (.d (.int m)), some x]
      = .ok (.rt (.o (.l [.int b, .int m, .int 0]))) [some (.q ns), some (.d (.int (i : Nat))), some (.d (.int own)), some (.d (.int m)), some x] := by
    rw [gRetO_ap, gLst_ap, gCons_ap, eb]
    simp
  show toRF 2 (g__law_dice _) = _
  unfold g__law_dice
  rw [gSeq_ap, show ([SV.q ns, SV.d (PyData.int (i : Nat))].map some ++ List.replicate 3 none : SS) = [some (.q ns), some (.d (.int (i : Nat))), none, none, none] from rfl, hA]
  dsimp only
  rw [gSeq_ap, hB]
  dsimp only
  rw [gSeq_ap, gFor_ap, hI, bind_ok, e]
  dsimp only
  rw [hD]
  rfl
end Kk37
set_option Elab.async false
set_option linter.all false
set_option maxRecDepth 100000
set_option maxHeartbeats 1000000
namespace Kk37
open PySem PySem.Spec PyProof.Rows L2 DL
def isI : D → Bool
  | .int _ => true
  | _ => false
theorem S_is_integer (x : D) : G_is_integer [.d x] = .ok (.d (.bool (isI x))) [none] := by
  cases x <;> rfl
def inB' (lo hi : Int) : D → Bool
  | .int i => decide (lo ≤ i ∧ i ≤ hi)
  | _ => false
theorem S_is_in (x : D) (lo hi : Int) : G_is_in [.d x, .d (.int lo), .d (.int hi)] = .ok (.d (.bool (inB' lo hi x))) [none, none, none] := by
  cases x with
  | int i =>
    simp [G_is_in, g_is_in, S_is_integer, isI, inB']
    by_cases h : lo ≤ i <;> simp [h]
  | _ => simp [G_is_in, g_is_in, S_is_integer, isI, inB']
def tupN (n : Int) : D → Bool
  | .tuple xs => decide ((xs.length : Int) = n)
  | _ => false
theorem isi_tuple (x : D) : dIsi "tuple" x = some (.bool (match x with | .tuple _ => true | _ => false)) := by cases x <;> rfl
theorem S_is_tuple_of (x : D) (n : Int) : G_is_tuple_of [.d x, .d (.int n)] = .ok (.d (.bool (tupN n x))) [none, none] := by
  cases x <;> simp [G_is_tuple_of, g_is_tuple_of, isi_tuple, tupN]
def tupMost (n : Int) : D → Bool
  | .tuple xs => decide ((xs.length : Int) ≤ n)
  | _ => false
theorem S_are_at_most (x : D) (n : Int) : G_are_at_most [.d x, .d (.int n)] = .ok (.d (.bool (tupMost n x))) [none, none] := by
  cases x <;> simp [G_are_at_most, g_are_at_most, isi_tuple, tupMost]
theorem S_demand_t (s : Str) : G_demand [.d (.bool true), .d (.str s)] = .ok (.d .none) [none, none] := by
  simp [G_demand, g_demand]
theorem S_demand_f (s : Str) : G_demand [.d (.bool false), .d (.str s)] = .ex "BadArgument" "name" (.str s) [none, none] := by
  simp [G_demand, g_demand]
/-! lots: start, end -/
abbrev Tm := Int × Int
def tD (t : Tm) : D := .tuple [.int t.1, .int t.2]
def validT (t : Tm) : Bool := decide (0 ≤ t.1 ∧ t.1 ≤ 1000) && decide (t.1 ≤ t.2 ∧ t.2 ≤ 1000)
theorem S_is_time (t : Tm) : G_is_time [.d (tD t)] = .ok (.d (.bool (validT t))) [none] := by
  simp [G_is_time, g_is_time, S_is_tuple_of, tupN, tD, S_is_in, inB', dIx, atI, ixN, validT]
  by_cases h : 0 ≤ t.1 ∧ t.1 ≤ 1000
  · rw [if_pos h]
    simp [h.1, h.2]
  · rw [if_neg h]
    by_cases h1 : 0 ≤ t.1
    · have h2 : ¬ t.1 ≤ 1000 := fun z => h ⟨h1, z⟩
      simp [h1, h2]
    · simp [h1]
theorem S_are_times (ts : List Tm) (hl : ts.length ≤ 60) : G_are_times [.d (.tuple (ts.map tD))] = .ok (.d (.bool (ts.all validT))) [none] := by
  have h : ∀ δ : SS, δ = [some (.d (.tuple (ts.map tD))), none] → gLc [1] (gItT (gVar 0)) (fName 1) gYes (gOfR (gCallR 1 G_is_time (gAgD (gVar 1) gAg0))) δ = .ok (.l (ts.map fun t => .bool (validT t))) δ := fun δ e => by
    subst e
    exact gLc_map tD (fun t => .bool (validT t)) ts (by simp) (small_line (by omega)) fun t _ => by simp [lcOne, S_is_time]
  simp [G_are_times, g_are_times, S_are_at_most, tupMost]
  rw [if_pos (by omega)]
  simp [h, dAll_mapB]
theorem six1' (n : Nat) : HT.sIx n 0 (some 1) = min 1 n := by
  unfold HT.sIx
  simp
  try omega
theorem sixn (n : Nat) : HT.sIx n n none = n := rfl
theorem cutD_tail (xs : List D) : DL.cutD xs (some 1) none = xs.tail := by
  unfold DL.cutD
  rw [six1', sixn]
  cases xs with
  | nil => rfl
  | cons x xs =>
    rw [show min 1 (x :: xs).length = 1 by simp, List.drop_one, List.tail_cons, List.take_of_length_le (by simp)]
def pD (p : Int × Int) : D := .tuple [.int p.1, .int p.2]
theorem zipD_ints (xs ys : List Int) : zipD (xs.map .int) (ys.map .int) = (xs.zip ys).map pD := by
  unfold zipD
  rw [List.zip, List.map_zipWith, List.zipWith_map]
  rfl
def asc (ns : List Int) : Bool := (ns.zip ns.tail).all fun p => decide (p.1 < p.2)
theorem S_is_ascending (ns : List Int) (hl : ns.length ≤ 1000) : G_is_ascending [.d (.tuple (ns.map .int))] = .ok (.d (.bool (asc ns))) [none] := by
  have h : ∀ δ : SS, δ = [some (.d (.tuple (ns.map .int))), none, none] → gLc [1, 2] (gBin dZip (gVar 0) (gSl dSlT (gVar 0) (gPart (gC (.int 1))) gPartN)) (fTup 2 (fCons (fName 1) (fCons (fName 2) fNil))) gYes (gOp dLt (gVar 1) (gVar 2)) δ
      = .ok (.l ((ns.zip ns.tail).map fun p => .bool (decide (p.1 < p.2)))) δ := fun δ e => by
    subst e
    refine gLc_map pD (fun p => .bool (decide (p.1 < p.2))) (ns.zip ns.tail) ?_ (small_line (by simp; omega)) fun p _ => by simp [lcOne, pD]
    simp [dSlT, cutD_tail, dZip, zipD_ints, ← List.map_tail]
  simp [G_is_ascending, g_is_ascending, h, dAll_mapB, asc]
def inR (m i : Int) : Bool := decide (0 ≤ i ∧ i ≤ m - 1)
def allIn (m : Int) (ns : List Int) : Bool := ns.all (inR m)
theorem S_are_indexes_t (ns : List Int) (m : Int) (hl : ns.length ≤ 1000) : G_are_indexes [.d (.tuple (ns.map .int)), .d (.int m)] = .ok (.d (.bool (allIn m ns && asc ns))) [none, none] := by
  have h : ∀ δ : SS, δ = [some (.d (.tuple (ns.map .int))), some (.d (.int m)), none] → gLc [2] (gItT (gVar 0)) (fName 2) gYes (gOfR (gCallR 3 G_is_in (gAgD (gVar 2) (gAgD (gC (.int 0)) (gAgD (gOp dSub (gVar 1) (gC (.int 1))) gAg0))))) δ
      = .ok (.l (ns.map fun i => .bool (inR m i))) δ := fun δ e => by
    subst e
    exact gLc_map PyData.int (fun i => .bool (inR m i)) ns (by simp) (small_line (by omega)) fun t _ => by simp [lcOne, S_is_in, inB', inR]
  have h0 := h _ rfl
  have hA : dAll (.list (ns.map fun i => .bool (inR m i))) = some (.bool (allIn m ns)) := dAll_mapB _ _
  cases c : allIn m ns with
  | true => simp [G_are_indexes, g_are_indexes, h0, isi_tuple, hA, S_is_ascending ns hl, c]
  | false => simp [G_are_indexes, g_are_indexes, h0, isi_tuple, hA, S_is_ascending ns hl, c]
theorem S_are_indexes_n (x : D) (m : Int) (hx : ∀ xs, x ≠ .tuple xs) : G_are_indexes [.d x, .d (.int m)] = .ok (.d (.bool false)) [none, none] := by
  cases x with
  | tuple xs => exact absurd rfl (hx xs)
  | _ => simp [G_are_indexes, g_are_indexes, isi_tuple]
/-! sorting pairs -/
def leP (p q : Int × Int) : Bool := decide (p.1 < q.1 ∨ (p.1 = q.1 ∧ p.2 ≤ q.2))
theorem sort_pairs (ps : List (Int × Int)) : sortD (ps.map pD) = (ps.mergeSort leP).map pD := by
  unfold sortD
  refine (List.map_mergeSort fun a _ b _ => ?_).symm
  have h := congrFun (congrFun (PySem.W.dataLe_ii (β := Int × Int) (fun p => p.1) (fun p => p.2)) a) b
  exact h.symm
theorem alike_pp (p q : Int × Int) : PySem.W.alike (pD p) (pD q) = true := by simp [pD, PySem.W.alike, PySem.W.alikeAll]
theorem plain_p (p : Int × Int) : (pD p).plain = true := by simp [pD, PyData.plain, PyData.plainAll]
theorem depth_p (p : Int × Int) : (pD p).depth ≤ 60 := by simp [pD, PyData.depth, PyData.depthAll]
theorem okSort_pairs (ps : List (Int × Int)) (h : ps.length ≤ 1000) : okSort (ps.map pD) = true := by
  unfold okSort
  simp only [Bool.and_eq_true, Bool.or_eq_true, List.all_eq_true, decide_eq_true_eq]
  refine ⟨⟨⟨fun x hx y hy => ?_, .inl fun x hx => ?_⟩, fun x hx => ?_⟩, small_line (by simp; omega)⟩
  · obtain ⟨p, _, rfl⟩ := List.mem_map.mp hx
    obtain ⟨q, _, rfl⟩ := List.mem_map.mp hy
    exact alike_pp p q
  · obtain ⟨p, _, rfl⟩ := List.mem_map.mp hx
    rfl
  · obtain ⟨p, _, rfl⟩ := List.mem_map.mp hx
    exact ⟨plain_p p, depth_p p⟩
theorem cSorted_pairs (ps : List (Int × Int)) (h : ps.length ≤ 1000) : cSorted (.list (ps.map pD)) = some (.l ((ps.mergeSort leP).map pD)) := by
  show (if okSort (ps.map pD) = true then some (OC.l (sortD (ps.map pD))) else none) = _
  rw [if_pos (okSort_pairs ps h), sort_pairs]
/-! the lots by their ends, those that are taken -/
def startOf (ts : List Tm) (i : Int) : Int := (ts.getD i.toNat (0, 0)).1
def step (ts : List Tm) (s : List (Int × Int) × Int) (p : Int × Int) : List (Int × Int) × Int := if s.2 < startOf ts p.2 then (s.1 ++ [p], p.1) else s
def byEnd (ts : List Tm) : List (Int × Int) := (ts.zipIdx.map fun p => (p.1.2, (p.2 : Int))).mergeSort leP
def inspL (ts : List Tm) : List (Int × Int) := ((byEnd ts).foldl (step ts) ([], -1)).1
theorem byEnd_mem {ts : List Tm} {p : Int × Int} (h : p ∈ byEnd ts) : ∃ i : Nat, ∃ t : Tm, ts[i]? = some t ∧ p = (t.2, (i : Int)) := by
  unfold byEnd at h
  rw [List.mem_mergeSort] at h
  obtain ⟨q, hq, rfl⟩ := List.mem_map.mp h
  obtain ⟨t, i⟩ := q
  exact ⟨i, t, List.mem_zipIdx_iff_getElem?.mp hq, rfl⟩
theorem byEnd_len (ts : List Tm) : (byEnd ts).length = ts.length := by simp [byEnd]
theorem enumD_tm (ts : List Tm) : enumD (ts.map tD) = ts.zipIdx.map fun p => .tuple [.int (p.2 : Nat), tD p.1] := by
  unfold enumD
  rw [List.zipIdx_map, List.map_map] <;> rfl
theorem step_len (ts : List Tm) : ∀ (l : List (Int × Int)) (s : List (Int × Int) × Int), (l.foldl (step ts) s).1.length ≤ s.1.length + l.length
  | [], s => by simp
  | p :: l, s => by
    have h := step_len ts l (step ts s p)
    have h2 : (step ts s p).1.length ≤ s.1.length + 1 := by
      unfold step
      split <;> simp
    rw [List.foldl_cons, List.length_cons]
    omega
theorem S_inspect (ts : List Tm) (hl : ts.length ≤ 60) : G_inspect [.d (.tuple (ts.map tD))] = .ok (.o (.l ((inspL ts).map pD))) [none] := by
  have h : ∀ δ : SS, δ = [some (.d (.tuple (ts.map tD))), some (.o (.l [])), some (.d (.int (-1))), none, none, none] → gItL (gD (gUnN cSorted (gD (gLc [4, 5] (gEnum asTup (gVar 0)) (fTup 2 (fCons (fName 4) (fCons (fName 5) fNil))) gYes (gTup (gCons (gOp dIx (gVar 5) (gC (.int 1))) (gCons (gVar 4) gNil))))))) δ
      = .ok ((byEnd ts).map pD) δ := fun δ e => by
    subst e
    have z : gLc [4, 5] (gEnum asTup (gVar 0)) (fTup 2 (fCons (fName 4) (fCons (fName 5) fNil))) gYes (gTup (gCons (gOp dIx (gVar 5) (gC (.int 1))) (gCons (gVar 4) gNil))) [some (.d (.tuple (ts.map tD))), some (.o (.l [])), some (.d (.int (-1))), none, none, none]
        = .ok (.l ((ts.zipIdx.map fun p => (p.1.2, (p.2 : Int))).map pD)) [some (.d (.tuple (ts.map tD))), some (.o (.l [])), some (.d (.int (-1))), none, none, none] := by
      rw [List.map_map]
      refine gLc_map (fun p : Tm × Nat => .tuple [.int (p.2 : Nat), tD p.1]) _ ts.zipIdx (by simp [enumD_tm]) (small_line (by simp; omega)) fun p _ => by simp [lcOne, tD, pD, dIx, atI, ixN]
    have hs := cSorted_pairs (ts.zipIdx.map fun p => (p.1.2, (p.2 : Int))) (by simp; omega)
    rw [gItL_ap, gD_ap, gUnN_ap, gD_ap, z]
    simp only [bind_ok, OC.toD, hs, opt_some]
    rfl
  have h0 := h _ rfl
  obtain ⟨fl, δ', e, h1⟩ := for_run (B := fun _ => False) (T := fun _ _ => False) (tg := fTup 2 (fCons (fName 3) (fCons (fName 4) fNil)))
    (gb := gIf (gT (gOp dGt (gOp dIx (gOp dIx (gVar 0) (gVar 4)) (gC (.int 0))) (gVar 2))) (gSeq (gApO 1 (gTup (gCons (gVar 3) (gCons (gVar 4) gNil)))) (gAsg 2 (gVar 3))) gSkip) ((byEnd ts).map pD)
    (fun j δ => ∃ (u1 u2 : Option SV), δ = [some (.d (.tuple (ts.map tD))), some (.o (.l ((((byEnd ts).take j).foldl (step ts) ([], -1)).1.map pD))), some (.d (.int (((byEnd ts).take j).foldl (step ts) ([], -1)).2)), u1, u2, none])
    [some (.d (.tuple (ts.map tD))), some (.o (.l [])), some (.d (.int (-1))), none, none, none] ⟨none, none, rfl⟩
    (fun j d δ hd ⟨u1, u2, e⟩ => by
      subst e
      rw [List.getElem?_map] at hd
      cases hp : (byEnd ts)[j]? with
      | none =>
        rw [hp] at hd
        cases hd
      | some p =>
        rw [hp] at hd
        cases hd
        obtain ⟨i, t, ht, rfl⟩ := byEnd_mem (List.mem_of_getElem? hp)
        have htk : (byEnd ts).take (j + 1) = (byEnd ts).take j ++ [(t.2, (i : Int))] := by
          rw [List.take_succ, hp]
          rfl
        have hsz : (((byEnd ts).take j).foldl (step ts) ([], -1)).1.length < sizeLine := by
          have h2 := step_len ts ((byEnd ts).take j) ([], -1)
          have h3 : ((byEnd ts).take j).length ≤ (byEnd ts).length := by
            rw [List.length_take]
            omega
          rw [byEnd_len] at h3
          have h4 : (0 : Nat) = ([] : List (Int × Int)).length := rfl
          rw [sizeLine_eq]
          have h5 : (([], -1) : List (Int × Int) × Int).1.length = 0 := rfl
          omega
        generalize hs : ((byEnd ts).take j).foldl (step ts) ([], -1) = s at hsz ⊢
        have hst : ((byEnd ts).take (j + 1)).foldl (step ts) ([], -1) = step ts s (t.2, (i : Int)) := by
          rw [htk, List.foldl_append, hs]
          rfl
        have hix : dIx (.tuple (ts.map tD)) (.int (i : Nat)) = some (tD t) := dIx_t (by rw [List.getElem?_map, ht]; rfl)
        have hi0 : dIx (tD t) (.int 0) = some (.int t.1) := rfl
        have hsta : startOf ts (i : Int) = t.1 := by
          unfold startOf
          rw [Int.toNat_natCast, List.getD_eq_getElem?_getD, ht]
          rfl
        refine ⟨[some (.d (.tuple (ts.map tD))), some (.o (.l (s.1.map pD))), some (.d (.int s.2)), some (.d (.int t.2)), some (.d (.int (i : Nat))), none], by simp [pD], ?_⟩
        by_cases c : s.2 < t.1
        · refine ⟨.nx, [some (.d (.tuple (ts.map tD))), some (.o (.l ((s.1 ++ [(t.2, (i : Int))]).map pD))), some (.d (.int t.2)), some (.d (.int t.2)), some (.d (.int (i : Nat))), none], ?_, some (.d (.int t.2)), some (.d (.int (i : Nat))), ?_⟩
          · simp [hix, hi0, c, hsz, pD]
          · rw [hst]
            unfold step
            rw [hsta, if_pos c]
        · refine ⟨.nx, [some (.d (.tuple (ts.map tD))), some (.o (.l (s.1.map pD))), some (.d (.int s.2)), some (.d (.int t.2)), some (.d (.int (i : Nat))), none], ?_, some (.d (.int t.2)), some (.d (.int (i : Nat))), ?_⟩
          · simp [hix, hi0, c]
          · rw [hst]
            unfold step
            rw [hsta, if_neg c])
  have hfull : ((byEnd ts).take ((byEnd ts).map pD).length).foldl (step ts) ([], -1) = (byEnd ts).foldl (step ts) ([], -1) := by
    rw [List.length_map, List.take_length]
  cases fl with
  | nx =>
    rcases h1 with ⟨u1, u2, rfl⟩ | h1
    · rw [hfull] at e
      show toRF 1 (g_inspect _) = _
      unfold g_inspect
      rw [gSeq_ap, show ([SV.d (PyData.tuple (ts.map tD))].map some ++ List.replicate 5 none : SS) = [some (.d (.tuple (ts.map tD))), none, none, none, none, none] from rfl,
        show gParF 1 2 (gLst gNil) (gUn dNeg (gC (.int 1))) [some (.d (.tuple (ts.map tD))), none, none, none, none, none] = .ok .nx [some (.d (.tuple (ts.map tD))), some (.o (.l [])), some (.d (.int (-1))), none, none, none] by simp]
      dsimp only
      rw [gSeq_ap, gFor_ap, h0, bind_ok, e]
      rfl
    · exact h1.elim
  | bk => exact h1.elim
  | ct => exact h1.elim
  | rt v => exact h1.elim
theorem inspL_len (ts : List Tm) : (inspL ts).length ≤ ts.length := by
  have h := step_len ts (byEnd ts) ([], -1)
  rw [byEnd_len] at h
  have h5 : (([], -1) : List (Int × Int) × Int).1.length = 0 := rfl
  unfold inspL
  omega
/-- valid lots -/
structure Val (ts : List Tm) : Prop where
  len : ts.length ≤ 60
  all : ts.all validT = true
theorem V_are {ts : List Tm} (v : Val ts) : G_are_times [.d (.tuple (ts.map tD))] = .ok (.d (.bool true)) [none] := by rw [S_are_times ts v.len, v.all]
theorem S_inspections {ts : List Tm} (v : Val ts) : G_inspections [.d (.tuple (ts.map tD))] = .ok (.d (.tuple ((inspL ts).map fun p => .int p.1))) [none] := by
  have h : ∀ δ : SS, δ = [some (.d (.tuple (ts.map tD))), none] → gLc [1] (gItL (gD (gOfRO (gCallR 1 G_inspect (gAgD (gVar 0) gAg0))))) (fName 1) gYes (gOp dIx (gVar 1) (gC (.int 0))) δ = .ok (.l ((inspL ts).map fun p => .int p.1)) δ := fun δ e => by
    subst e
    exact gLc_map pD (fun p => .int p.1) (inspL ts) (by simp [S_inspect ts v.len]) (small_line (by have := inspL_len ts; have := v.len; omega)) fun p _ => by simp [lcOne, pD, dIx, atI, ixN]
  have h0 := h _ rfl
  simp [G_inspections, g_inspections, V_are v, S_demand_t, h0]
theorem X_inspections {x : D} (h : G_are_times [.d x] = .ok (.d (.bool false)) [none]) : G_inspections [.d x] = .ex "BadArgument" "name" (.str "times") [none] := by
  simp [G_inspections, g_inspections, h, S_demand_f]
theorem sort_ints (ns : List Int) : sortD (ns.map .int) = (ns.mergeSort fun a b => decide (a ≤ b)).map .int := by
  unfold sortD
  refine (List.map_mergeSort fun a _ b _ => ?_).symm
  have h := congrFun (congrFun (PySem.W.dataLe_int (β := Int) id) a) b
  exact h.symm
theorem okSort_ints (ns : List Int) (h : ns.length ≤ 1000) : okSort (ns.map .int) = true := by
  unfold okSort
  simp only [Bool.and_eq_true, Bool.or_eq_true, List.all_eq_true, decide_eq_true_eq]
  refine ⟨⟨⟨fun x hx y hy => ?_, .inr fun x hx => ?_⟩, fun x hx => ?_⟩, small_line (by simp; omega)⟩
  · obtain ⟨p, _, rfl⟩ := List.mem_map.mp hx
    obtain ⟨q, _, rfl⟩ := List.mem_map.mp hy
    exact alike_ii p q
  · obtain ⟨p, _, rfl⟩ := List.mem_map.mp hx
    rfl
  · obtain ⟨p, _, rfl⟩ := List.mem_map.mp hx
    exact ⟨rfl, by simp [PyData.depth]⟩
def srt (ns : List Int) : List Int := ns.mergeSort fun a b => decide (a ≤ b)
theorem cSorted_ints (ns : List Int) (h : ns.length ≤ 1000) : cSorted (.list (ns.map .int)) = some (.l ((srt ns).map .int)) := by
  show (if okSort (ns.map .int) = true then some (OC.l (sortD (ns.map .int))) else none) = _
  rw [if_pos (okSort_ints ns h), sort_ints]
  rfl
def apL (ts : List Tm) : List Int := srt ((inspL ts).map (·.2))
theorem S_apart {ts : List Tm} (v : Val ts) : G_apart [.d (.tuple (ts.map tD))] = .ok (.d (.tuple ((apL ts).map .int))) [none] := by
  have h : ∀ δ : SS, δ = [some (.d (.tuple (ts.map tD))), none] → gLc [1] (gItL (gD (gOfRO (gCallR 1 G_inspect (gAgD (gVar 0) gAg0))))) (fName 1) gYes (gOp dIx (gVar 1) (gC (.int 1))) δ = .ok (.l (((inspL ts).map (·.2)).map .int)) δ := fun δ e => by
    subst e
    rw [List.map_map]
    exact gLc_map pD _ (inspL ts) (by simp [S_inspect ts v.len]) (small_line (by have := inspL_len ts; have := v.len; omega)) fun p _ => by simp [lcOne, pD, dIx, atI, ixN]
  have h0 := h _ rfl
  have hs := cSorted_ints ((inspL ts).map (·.2)) (by have := inspL_len ts; have := v.len; simp; omega)
  have hU : gUnN cSorted (gD (gLc [1] (gItL (gD (gOfRO (gCallR 1 G_inspect (gAgD (gVar 0) gAg0))))) (fName 1) gYes (gOp dIx (gVar 1) (gC (.int 1))))) [some (.d (.tuple (ts.map tD))), none] = .ok (.l ((apL ts).map .int)) [some (.d (.tuple (ts.map tD))), none] := by
    rw [gUnN_ap, gD_ap, h0]
    simp only [bind_ok, OC.toD, hs, opt_some]
    rfl
  have hT : gRet (gUn dTuple (gD (gUnN cSorted (gD (gLc [1] (gItL (gD (gOfRO (gCallR 1 G_inspect (gAgD (gVar 0) gAg0))))) (fName 1) gYes (gOp dIx (gVar 1) (gC (.int 1)))))))) [some (.d (.tuple (ts.map tD))), none] = .ok (.rt (.d (.tuple ((apL ts).map .int)))) [some (.d (.tuple (ts.map tD))), none] := by
    rw [gRet_ap, gUn_ap, gD_ap, hU]
    simp
  have hD : gDrop (gOfR (gCallR 2 G_demand (gAgD (gOfR (gCallR 1 G_are_times (gAgD (gVar 0) gAg0))) (gAgD (gC (.str "times")) gAg0)))) [some (.d (.tuple (ts.map tD))), none] = .ok .nx [some (.d (.tuple (ts.map tD))), none] := by
    simp [V_are v, S_demand_t]
  show toRF 1 (g_apart _) = _
  unfold g_apart
  rw [gSeq_ap, show ([SV.d (PyData.tuple (ts.map tD))].map some ++ List.replicate 1 none : SS) = [some (.d (.tuple (ts.map tD))), none] from rfl, hD]
  dsimp only
  rw [hT]
  rfl
theorem X_apart {x : D} (h : G_are_times [.d x] = .ok (.d (.bool false)) [none]) : G_apart [.d x] = .ex "BadArgument" "name" (.str "times") [none] := by
  simp [G_apart, g_apart, h, S_demand_f]
end Kk37
set_option Elab.async false
set_option linter.all false
set_option maxRecDepth 100000
set_option maxHeartbeats 1000000
namespace Kk37
open PySem PySem.Spec PyProof.Rows L2 DL
def lotAt (ts : List Tm) (i : Int) : Tm := ts.getD i.toNat (0, 0)
def someL (ts : List Tm) (ns : List Int) : List Tm := (ns.map (lotAt ts)).mergeSort leP
def sepB (p : Tm × Tm) : Bool := decide (p.1.2 < p.2.1)
def apartB (l : List Tm) : Bool := (l.zip l.tail).all sepB
def ppD (p : Tm × Tm) : D := .tuple [pD p.1, pD p.2]
theorem zipD_pairs (xs ys : List Tm) : zipD (xs.map pD) (ys.map pD) = (xs.zip ys).map ppD := by
  unfold zipD
  rw [List.zip, List.map_zipWith, List.zipWith_map]
  rfl
theorem pD_0 (p : Tm) : dIx (pD p) (.int 0) = some (.int p.1) := rfl
theorem pD_1 (p : Tm) : dIx (pD p) (.int 1) = some (.int p.2) := rfl
theorem tD_pD : tD = pD := rfl
theorem ix_lot {ts : List Tm} {i : Int} (h : inR ts.length i = true) : dIx (.tuple (ts.map tD)) (.int i) = some (pD (lotAt ts i)) := by
  have h' : 0 ≤ i ∧ i ≤ (ts.length : Int) - 1 := of_decide_eq_true h
  obtain ⟨j, rfl⟩ : ∃ j : Nat, i = (j : Int) := ⟨i.toNat, by omega⟩
  have hj : j < ts.length := by omega
  refine dIx_t ?_
  rw [List.getElem?_map, List.getElem?_eq_getElem hj]
  unfold lotAt
  rw [Int.toNat_natCast, List.getD_eq_getElem?_getD, List.getElem?_eq_getElem hj]
  rfl
theorem cSorted_lots (ps : List Tm) (h : ps.length ≤ 1000) : cSorted (.list (ps.map pD)) = some (.l ((ps.mergeSort leP).map pD)) := cSorted_pairs ps h
abbrev gSome (n : Nat) (vs : List Nat) (v : Nat) : SS → R OC := gUnN cSorted (gD (gLc vs (gItT (gVar v)) (fName n) gYes (gOp dIx (gVar 0) (gVar n))))
theorem S_is_apart_n {ts : List Tm} (v : Val ts) (x : D) (hx : ∀ xs, x ≠ .tuple xs) : G_is_apart [.d (.tuple (ts.map tD)), .d x] = .ok (.d (.bool false)) [none, none] := by
  have hi := S_are_indexes_n x ts.length hx
  simp [G_is_apart, g_is_apart, V_are v, S_demand_t, hi]
def isApB (ts : List Tm) (ns : List Int) : Bool := allIn ts.length ns && (asc ns && (decide (ns.length = (inspL ts).length) && apartB (someL ts ns)))
theorem S_is_apart_t {ts : List Tm} (v : Val ts) (ns : List Int) (hl : ns.length ≤ 1000) : G_is_apart [.d (.tuple (ts.map tD)), .d (.tuple (ns.map .int))] = .ok (.d (.bool (isApB ts ns))) [none, none] := by
  have hi := S_are_indexes_t ns ts.length hl
  have hin := S_inspect ts v.len
  unfold isApB
  cases c1 : allIn ts.length ns with
  | false => simp [G_is_apart, g_is_apart, V_are v, S_demand_t, hi, c1]
  | true =>
    cases c2 : asc ns with
    | false => simp [G_is_apart, g_is_apart, V_are v, S_demand_t, hi, c1, c2]
    | true =>
      by_cases c3 : ns.length = (inspL ts).length
      · have hc : gLc [3] (gItT (gVar 1)) (fName 3) gYes (gOp dIx (gVar 0) (gVar 3)) [some (.d (.tuple (ts.map tD))), some (.d (.tuple (ns.map .int))), none, none, none, none]
            = .ok (.l ((ns.map (lotAt ts)).map pD)) [some (.d (.tuple (ts.map tD))), some (.d (.tuple (ns.map .int))), none, none, none, none] := by
          rw [List.map_map]
          refine gLc_map PyData.int _ ns (by simp) (small_line (by omega)) fun i hi => ?_
          have hr : inR ts.length i = true := List.all_eq_true.mp c1 i hi
          simp [lcOne, ix_lot hr]
        have hs := cSorted_lots (ns.map (lotAt ts)) (by simp; omega)
        have hl2 : (someL ts ns).length = ns.length := by simp [someL]
        have hz : gLc [4, 5] (gBin dZip (gVar 2) (gD (gSl cSlL (gVar 2) (gPart (gC (.int 1))) gPartN))) (fTup 2 (fCons (fName 4) (fCons (fName 5) fNil))) gYes (gOp dLt (gOp dIx (gVar 4) (gC (.int 1))) (gOp dIx (gVar 5) (gC (.int 0))))
            [some (.d (.tuple (ts.map tD))), some (.d (.tuple (ns.map .int))), some (.d (.list ((someL ts ns).map pD))), none, none, none]
            = .ok (.l (((someL ts ns).zip (someL ts ns).tail).map fun p => .bool (sepB p))) [some (.d (.tuple (ts.map tD))), some (.d (.tuple (ns.map .int))), some (.d (.list ((someL ts ns).map pD))), none, none, none] := by
          refine gLc_map ppD (fun p => .bool (sepB p)) ((someL ts ns).zip (someL ts ns).tail) ?_ (small_line (by simp; omega)) fun p _ => by simp [lcOne, ppD, pD_0, pD_1, sepB]
          simp [cSlL, cutD_tail, dZip, zipD_pairs, ← List.map_tail]
        have hA : dAll (.list (((someL ts ns).zip (someL ts ns).tail).map fun p => .bool (sepB p))) = some (.bool (apartB (someL ts ns))) := dAll_mapB _ _
        have hs' : cSorted (.list ((ns.map (lotAt ts)).map pD)) = some (.l ((someL ts ns).map pD)) := hs
        have hS : gUnN cSorted (gD (gLc [3] (gItT (gVar 1)) (fName 3) gYes (gOp dIx (gVar 0) (gVar 3)))) [some (.d (.tuple (ts.map tD))), some (.d (.tuple (ns.map .int))), none, none, none, none]
            = .ok (.l ((someL ts ns).map pD)) [some (.d (.tuple (ts.map tD))), some (.d (.tuple (ns.map .int))), none, none, none, none] := by
          rw [gUnN_ap, gD_ap, hc]
          simp only [bind_ok, OC.toD, hs', opt_some]
        have hD : gDrop (gOfR (gCallR 2 G_demand (gAgD (gOfR (gCallR 1 G_are_times (gAgD (gVar 0) gAg0))) (gAgD (gC (.str "times")) gAg0)))) [some (.d (.tuple (ts.map tD))), some (.d (.tuple (ns.map .int))), none, none, none, none] = .ok .nx [some (.d (.tuple (ts.map tD))), some (.d (.tuple (ns.map .int))), none, none, none, none] := by
          simp [V_are v, S_demand_t]
        show toRF 2 (g_is_apart _) = _
        unfold g_is_apart
        rw [gSeq_ap, show ([SV.d (PyData.tuple (ts.map tD)), SV.d (PyData.tuple (ns.map .int))].map some ++ List.replicate 4 none : SS) = [some (.d (.tuple (ts.map tD))), some (.d (.tuple (ns.map .int))), none, none, none, none] from rfl, hD]
        dsimp only
        have hIf : gIf (gOr (gNot (gT (gOfR (gCallR 2 G_are_indexes (gAgD (gVar 1) (gAgD (gUn dLen (gVar 0)) gAg0)))))) (gT (gOp dNe (gUn dLen (gVar 1)) (gUn dLen (gD (gOfRO (gCallR 1 G_inspect (gAgD (gVar 0) gAg0)))))))) (gRet (gC (.bool false))) gSkip
            [some (.d (.tuple (ts.map tD))), some (.d (.tuple (ns.map .int))), none, none, none, none] = .ok .nx [some (.d (.tuple (ts.map tD))), some (.d (.tuple (ns.map .int))), none, none, none, none] := by
          simp [hi, c1, c2, hin, c3]
        rw [gSeq_ap, hIf]
        dsimp only
        have hAs : gAsg 2 (gD (gUnN cSorted (gD (gLc [3] (gItT (gVar 1)) (fName 3) gYes (gOp dIx (gVar 0) (gVar 3)))))) [some (.d (.tuple (ts.map tD))), some (.d (.tuple (ns.map .int))), none, none, none, none]
            = .ok .nx [some (.d (.tuple (ts.map tD))), some (.d (.tuple (ns.map .int))), some (.d (.list ((someL ts ns).map pD))), none, none, none] := by
          rw [gAsg_ap, gD_ap, hS]
          rfl
        rw [gSeq_ap, hAs]
        dsimp only
        rw [gRet_ap, gUn_ap, gD_ap, hz]
        simp only [bind_ok, OC.toD, hA, opt_some]
        simp [c3]
      · have c3' : ((ns.length : Int) = ((inspL ts).length : Int)) = False := by simp; omega
        simp [G_is_apart, g_is_apart, V_are v, S_demand_t, hi, c1, c2, hin, c3, c3']
end Kk37
set_option Elab.async false
set_option linter.all false
set_option maxRecDepth 100000
set_option maxHeartbeats 1000000
namespace Kk37
open PySem PySem.Spec PyProof.Rows L2 DL
/-! the law's own count -/
def ends (ts : List Tm) (b : List Int) (k : Int) : List Int := (ts.filter fun t => decide (t.2 = k)).map fun t => b.getD t.1.toNat 0 + 1
def nxt (ts : List Tm) (b : List Int) (k : Int) : Int := (ends ts b k).foldl max (b.getLastD 0)
def bestL (ts : List Tm) : Nat → List Int
  | 0 => [0]
  | k + 1 => bestL ts k ++ [nxt ts (bestL ts k) k]
theorem bestL_len (ts : List Tm) : ∀ k, (bestL ts k).length = k + 1
  | 0 => rfl
  | k + 1 => by
    unfold bestL
    rw [List.length_append, bestL_len ts k] <;> rfl
def topT (ts : List Tm) : Int := (ts.map fun t => t.2 + 1).foldl max 0
def mostL (ts : List Tm) : Int := (bestL ts (topT ts).toNat).getLastD 0
theorem ixN_last {n : Nat} (h : 0 < n) : ixN n (-1) = some (n - 1) := by
  unfold ixN
  rw [if_neg (by omega), if_pos (by omega)]
  congr 1
  omega
theorem dIx_last {xs : List Int} (h : xs ≠ []) : dIx (.list (xs.map .int)) (.int (-1)) = some (.int (xs.getLastD 0)) := by
  show atI (xs.map PyData.int) (-1) = _
  have hp : 0 < (xs.map PyData.int).length := by
    rw [List.length_map]
    exact List.length_pos_iff.mpr h
  unfold atI
  rw [ixN_last hp]
  show (xs.map PyData.int)[(xs.map PyData.int).length - 1]? = _
  rw [List.getElem?_map, List.length_map]
  have e : xs[xs.length - 1]? = some (xs.getLastD 0) := by
    rw [← List.getLast?_eq_getElem?, List.getLastD_eq_getLast?]
    cases hx : xs.getLast? with
    | none => exact absurd (List.getLast?_eq_none_iff.mp hx) h
    | some a => rfl
  rw [e] <;> rfl
theorem dMax_ints (x : Int) (xs : List Int) : dMax (.list (.int x :: xs.map .int)) = some (.int (xs.foldl max x)) := by
  show (intsOf (PyData.int x :: xs.map PyData.int)).bind (fun ns => (maxI ns).map PyData.int) = _
  rw [show (PyData.int x :: xs.map PyData.int) = (x :: xs).map PyData.int from rfl, intsOf_map]
  rfl
theorem cCat_l (xs ys : List D) (h : xs.length + ys.length ≤ 1000000) : cCat (.list xs) (.list ys) = some (.l (xs ++ ys)) := by
  show (if xs.length + ys.length ≤ sizeLine then some (OC.l (xs ++ ys)) else none) = _
  rw [if_pos (small_line h)]
theorem val_at {ts : List Tm} (v : Val ts) {t : Tm} (h : t ∈ ts) : 0 ≤ t.1 ∧ t.1 ≤ t.2 ∧ t.2 ≤ 1000 := by
  have z := List.all_eq_true.mp v.all t h
  unfold validT at z
  simp only [Bool.and_eq_true, decide_eq_true_eq] at z
  omega
theorem topT_le {ts : List Tm} (v : Val ts) : 0 ≤ topT ts ∧ topT ts ≤ 1001 := by
  unfold topT
  obtain ⟨h1, h2, h3⟩ := foldl_max_ge (ts.map fun t => t.2 + 1) 0
  refine ⟨h1, ?_⟩
  rcases h3 with h3 | h3
  · omega
  · obtain ⟨t, ht, e⟩ := List.mem_map.mp h3
    have := val_at v ht
    omega
abbrev bodyMost : SS → R Fl := gSeq (gAsg 3 (gD (gLc [5, 6] (gItT (gVar 0)) (fTup 2 (fCons (fName 5) (fCons (fName 6) fNil))) (gT (gOp dEq (gVar 6) (gVar 2))) (gOp dAdd (gOpL dIx 1 (gVar 5)) (gC (.int 1)))))) (gApO 1 (gUn dMax (gD (gOpN cCat (gD (gLst (gCons (gOpL dIx 1 (gUn dNeg (gC (.int 1)))) gNil))) (gVar 3)))))
theorem S_most {ts : List Tm} (v : Val ts) : G__law_most_apart [.d (.tuple (ts.map tD))] = .ok (.d (.int (mostL ts))) [none] := by
  have ht := topT_le v
  have hT : ∀ δ : SS, δ = [some (.d (.tuple (ts.map tD))), some (.o (.l [.int 0])), none, none, none, none, none] → gRange1 (gUn dMax (gD (gOpN cCat (gD (gLst (gCons (gC (.int 0)) gNil))) (gD (gLc [4] (gItT (gVar 0)) (fName 4) gYes (gOp dAdd (gOp dIx (gVar 4) (gC (.int 1))) (gC (.int 1)))))))) δ
      = .ok (rangeD 0 (topT ts).toNat) δ := fun δ e => by
    subst e
    have z : gLc [4] (gItT (gVar 0)) (fName 4) gYes (gOp dAdd (gOp dIx (gVar 4) (gC (.int 1))) (gC (.int 1))) [some (.d (.tuple (ts.map tD))), some (.o (.l [.int 0])), none, none, none, none, none]
        = .ok (.l ((ts.map fun t => t.2 + 1).map .int)) [some (.d (.tuple (ts.map tD))), some (.o (.l [.int 0])), none, none, none, none, none] := by
      rw [List.map_map]
      exact gLc_map tD _ ts (by simp) (small_line (by have := v.len; omega)) fun t _ => by simp [lcOne, tD_pD, pD_1]
    have hc := cCat_l [.int 0] ((ts.map fun t => t.2 + 1).map .int) (by have := v.len; simp; omega)
    have hm := dMax_ints 0 (ts.map fun t => t.2 + 1)
    simp only [gD_ap, gVar_ap, gC_ap, gOp_ap, gT_ap, gChain_ap, gAnd_ap, gOr_ap, gNot_ap, gAndV_ap, gOrV_ap, gNotV_ap, gIfE_ap, gNil_ap, gCons_ap, gTup_ap, gLst_ap, gOwn_ap, gOpL_ap, gOpO_ap, gOpN_ap, gUn_ap, gUnN_ap, gScr_ap, gScrIx_ap, gScrLen_ap, gPart_ap, gPartN_ap, gSl_ap, gItL_ap, gItT_ap, gItS_ap, gRange1_ap, gBin_ap, gSkip_ap, gSeq_ap, gBrk_ap, gCnt_ap, gDrop_ap, gRet_ap, gRetO_ap, gRetOwn_ap, gIf_ap, gAsg_ap, gAsgO_ap, gAsgT_ap, gPar_ap, gParO_ap, gParF_ap, gPar3_ap, gPar3O_ap, gApp_ap, gApO_ap, gSetIx_ap, gAg0_ap, gAgD_ap, gAgS_ap, gAgF_ap, gCallR_ap, gCallKN_ap, gOfR_ap, gOfRO_ap, gRaise_ap, gRef_ap, gFrz_ap, gEnum_ap, gEnumL_ap, gYes_ap, gFor_ap, gScrSl_ap, gDef_ap, resolve_ap, agOk_ap, gCallA_ap, ocAt_ap, isO_ap, fName_ap, fNil_ap, fCons_ap, fTup_ap, fitL_ap, bind_ok, bind_bad, bind_ex, opt_some, opt_none, if_true, List.length_cons, List.length_nil, List.map_cons, List.map_nil, List.cons_append, List.nil_append, List.replicate, List.getElem?_cons_zero, List.getElem?_cons_succ, List.set_cons_zero, List.set_cons_succ, OC.toD, RV.toD, Nat.zero_add, Nat.reduceAdd, line_0, line_1, line_2, line_3, line_4, line_5, line_6, line_7, line_8, z, hc, hm]
    show (if -(2 ^ 62) ≤ topT ts ∧ topT ts < 2 ^ 62 then R.ok (rangeD 0 (topT ts).toNat) _ else .bad) = _
    rw [if_pos ⟨by omega, by omega⟩]
  have hT0 := hT _ rfl
  have hR : ∀ n i : Nat, i < n → (rangeD 0 n)[i]? = some (.int (i : Nat)) := fun n i h => by
    unfold rangeD
    rw [List.getElem?_map, List.getElem?_range h]
    simp
  have hRl : ∀ n : Nat, (rangeD 0 n).length = n := fun n => by simp [rangeD]
  obtain ⟨fl, δ', e, h1⟩ := for_run (B := fun _ => False) (T := fun _ _ => False) (tg := fName 2) (gb := bodyMost) (rangeD 0 (topT ts).toNat)
    (fun j δ => ∃ (u2 u3 : Option SV), δ = [some (.d (.tuple (ts.map tD))), some (.o (.l ((bestL ts j).map .int))), u2, u3, none, none, none])
    [some (.d (.tuple (ts.map tD))), some (.o (.l [.int 0])), none, none, none, none, none] ⟨none, none, rfl⟩
    (fun j d δ hd ⟨u2, u3, e⟩ => by
      subst e
      have hj : j < (topT ts).toNat := by
        have := (List.getElem?_eq_some_iff.mp hd).1
        rw [hRl] at this
        exact this
      rw [hR _ j hj] at hd
      cases hd
      have hbl := bestL_len ts j
      generalize hb : bestL ts j = b at hbl
      have hbne : b ≠ [] := fun z => by
        rw [z] at hbl
        simp at hbl
      refine ⟨[some (.d (.tuple (ts.map tD))), some (.o (.l (b.map .int))), some (.d (.int (j : Nat))), u3, none, none, none], rfl, ?_⟩
      have z : gLc [5, 6] (gItT (gVar 0)) (fTup 2 (fCons (fName 5) (fCons (fName 6) fNil))) (gT (gOp dEq (gVar 6) (gVar 2))) (gOp dAdd (gOpL dIx 1 (gVar 5)) (gC (.int 1))) [some (.d (.tuple (ts.map tD))), some (.o (.l (b.map .int))), some (.d (.int (j : Nat))), u3, none, none, none]
          = .ok (.l ((ends ts b j).map .int)) [some (.d (.tuple (ts.map tD))), some (.o (.l (b.map .int))), some (.d (.int (j : Nat))), u3, none, none, none] := by
        unfold ends
        rw [List.map_map]
        refine gLc_run tD (fun t => decide (t.2 = (j : Int))) _ ts (by simp) (small_line (by have := v.len; omega)) fun t ht => ?_
        have hv := val_at v ht
        by_cases c : t.2 = (j : Int)
        · have hx : dIx (.list (b.map .int)) (.int t.1) = some (.int (b.getD t.1.toNat 0)) := by
            obtain ⟨i, hi⟩ : ∃ i : Nat, t.1 = (i : Int) := ⟨t.1.toNat, by omega⟩
            have hil : i < b.length := by omega
            rw [hi, Int.toNat_natCast]
            refine dIx_l ?_
            rw [List.getElem?_map, List.getElem?_eq_getElem hil, List.getD_eq_getElem?_getD, List.getElem?_eq_getElem hil]
            rfl
          cases u3 with
          | none => simp [lcOne, tD, c, hx]
          | some u3 => cases u3 <;> simp [lcOne, tD, c, hx]
        · cases u3 with
          | none => simp [lcOne, tD, c]
          | some u3 => cases u3 <;> simp [lcOne, tD, c]
      have hlast := dIx_last hbne
      have hlen : (ends ts b j).length ≤ 60 := by
        unfold ends
        rw [List.length_map]
        exact Nat.le_trans (List.length_filter_le ..) v.len
      have hc2 := cCat_l [.int (b.getLastD 0)] ((ends ts b j).map .int) (by simp; omega)
      have hm2 := dMax_ints (b.getLastD 0) (ends ts b j)
      have hsz : (b.map PyData.int).length < sizeLine := by
        rw [List.length_map, sizeLine_eq]
        omega
      refine ⟨.nx, [some (.d (.tuple (ts.map tD))), some (.o (.l ((b ++ [nxt ts b j]).map .int))), some (.d (.int (j : Nat))), some (.d (.list ((ends ts b j).map .int))), none, none, none], ?_, some (.d (.int (j : Nat))), some (.d (.list ((ends ts b j).map .int))), ?_⟩
      · unfold bodyMost
        rw [gSeq_ap, gAsg_ap, gD_ap, z]
        simp only [gD_ap, gVar_ap, gC_ap, gOp_ap, gT_ap, gChain_ap, gAnd_ap, gOr_ap, gNot_ap, gAndV_ap, gOrV_ap, gNotV_ap, gIfE_ap, gNil_ap, gCons_ap, gTup_ap, gLst_ap, gOwn_ap, gOpL_ap, gOpO_ap, gOpN_ap, gUn_ap, gUnN_ap, gScr_ap, gScrIx_ap, gScrLen_ap, gPart_ap, gPartN_ap, gSl_ap, gItL_ap, gItT_ap, gItS_ap, gRange1_ap, gBin_ap, gSkip_ap, gSeq_ap, gBrk_ap, gCnt_ap, gDrop_ap, gRet_ap, gRetO_ap, gRetOwn_ap, gIf_ap, gAsg_ap, gAsgO_ap, gAsgT_ap, gPar_ap, gParO_ap, gParF_ap, gPar3_ap, gPar3O_ap, gApp_ap, gApO_ap, gSetIx_ap, gAg0_ap, gAgD_ap, gAgS_ap, gAgF_ap, gCallR_ap, gCallKN_ap, gOfR_ap, gOfRO_ap, gRaise_ap, gRef_ap, gFrz_ap, gEnum_ap, gEnumL_ap, gYes_ap, gFor_ap, gScrSl_ap, gDef_ap, resolve_ap, agOk_ap, gCallA_ap, ocAt_ap, isO_ap, fName_ap, fNil_ap, fCons_ap, fTup_ap, fitL_ap, bind_ok, bind_bad, bind_ex, opt_some, opt_none, if_true, List.length_cons, List.length_nil, List.map_cons, List.map_nil, List.cons_append, List.nil_append, List.replicate, List.getElem?_cons_zero, List.getElem?_cons_succ, List.set_cons_zero, List.set_cons_succ, OC.toD, RV.toD, Nat.zero_add, Nat.reduceAdd, line_0, line_1, line_2, line_3, line_4, line_5, line_6, line_7, line_8, dNeg_i, hlast, hc2, hm2, hsz]
        rw [List.map_append]
        rfl
      · unfold bestL
        rw [hb])
  have hfin : bestL ts (topT ts).toNat ≠ [] := fun z => by
    have := bestL_len ts (topT ts).toNat
    rw [z] at this
    simp at this
  have hlast := dIx_last hfin
  rw [hRl] at h1
  cases fl with
  | nx =>
    rcases h1 with ⟨u1, u2, rfl⟩ | h1
    · show toRF 1 (g__law_most_apart _) = _
      unfold g__law_most_apart
      rw [gSeq_ap, show ([SV.d (PyData.tuple (ts.map tD))].map some ++ List.replicate 6 none : SS) = [some (.d (.tuple (ts.map tD))), none, none, none, none, none, none] from rfl,
        show gAsgO 1 (gLst (gCons (gC (.int 0)) gNil)) [some (.d (.tuple (ts.map tD))), none, none, none, none, none, none] = .ok .nx [some (.d (.tuple (ts.map tD))), some (.o (.l [.int 0])), none, none, none, none, none] by simp]
      dsimp only
      rw [gSeq_ap, gFor_ap, hT0, bind_ok]
      unfold bodyMost at e
      rw [e]
      simp only [gD_ap, gVar_ap, gC_ap, gOp_ap, gT_ap, gChain_ap, gAnd_ap, gOr_ap, gNot_ap, gAndV_ap, gOrV_ap, gNotV_ap, gIfE_ap, gNil_ap, gCons_ap, gTup_ap, gLst_ap, gOwn_ap, gOpL_ap, gOpO_ap, gOpN_ap, gUn_ap, gUnN_ap, gScr_ap, gScrIx_ap, gScrLen_ap, gPart_ap, gPartN_ap, gSl_ap, gItL_ap, gItT_ap, gItS_ap, gRange1_ap, gBin_ap, gSkip_ap, gSeq_ap, gBrk_ap, gCnt_ap, gDrop_ap, gRet_ap, gRetO_ap, gRetOwn_ap, gIf_ap, gAsg_ap, gAsgO_ap, gAsgT_ap, gPar_ap, gParO_ap, gParF_ap, gPar3_ap, gPar3O_ap, gApp_ap, gApO_ap, gSetIx_ap, gAg0_ap, gAgD_ap, gAgS_ap, gAgF_ap, gCallR_ap, gCallKN_ap, gOfR_ap, gOfRO_ap, gRaise_ap, gRef_ap, gFrz_ap, gEnum_ap, gEnumL_ap, gYes_ap, gFor_ap, gScrSl_ap, gDef_ap, resolve_ap, agOk_ap, gCallA_ap, ocAt_ap, isO_ap, fName_ap, fNil_ap, fCons_ap, fTup_ap, fitL_ap, bind_ok, bind_bad, bind_ex, opt_some, opt_none, if_true, List.length_cons, List.length_nil, List.map_cons, List.map_nil, List.cons_append, List.nil_append, List.replicate, List.getElem?_cons_zero, List.getElem?_cons_succ, List.set_cons_zero, List.set_cons_succ, OC.toD, RV.toD, Nat.zero_add, Nat.reduceAdd, line_0, line_1, line_2, line_3, line_4, line_5, line_6, line_7, line_8, dNeg_i, hlast]
      rfl
    · exact h1.elim
  | bk => exact h1.elim
  | ct => exact h1.elim
  | rt v => exact h1.elim
end Kk37
set_option Elab.async false
set_option linter.all false
set_option maxRecDepth 100000
set_option maxHeartbeats 1000000
namespace Kk37
open PySem PySem.Spec PyProof.Rows L2 DL
/-! equality of lists of ints, of empty lists -/
theorem plainAll_ints : ∀ ns : List Int, PyData.plainAll (ns.map .int) = true
  | [] => rfl
  | n :: ns => by
    show (PyData.plain (.int n) && PyData.plainAll (ns.map .int)) = true
    rw [plainAll_ints ns] <;> rfl
theorem depthAll_ints : ∀ ns : List Int, PyData.depthAll (ns.map .int) = 0
  | [] => rfl
  | n :: ns => by
    have h := depthAll_ints ns
    simp [PyData.depthAll, PyData.depth, h]
theorem eqvAll_ints : ∀ ns ms : List Int, PyData.eqvAll (ns.map .int) (ms.map .int) = decide (ns = ms)
  | [], [] => rfl
  | [], m :: ms => by simp [PyData.eqvAll]
  | n :: ns, [] => by simp [PyData.eqvAll]
  | n :: ns, m :: ms => by
    have h := eqvAll_ints ns ms
    simp [PyData.eqvAll, PyData.eqv, h]
    by_cases c : n = m <;> simp [c]
theorem eqB_lists (ns : List Int) (y : D) (hy : y.plain = true) : eqB (.list (ns.map .int)) y = true := by
  unfold eqB
  have h1 : PyData.plain (.list (ns.map .int)) = true := plainAll_ints ns
  have h2 : PyData.depth (.list (ns.map .int)) ≤ 64 := by
    have := depthAll_ints ns
    simp [PyData.depth, this]
  rw [h1, hy, decide_eq_true h2] <;> rfl
theorem eqB_tups (ns : List Int) (y : D) (hy : y.plain = true) : eqB (.tuple (ns.map .int)) y = true := by
  unfold eqB
  have h1 : PyData.plain (.tuple (ns.map .int)) = true := plainAll_ints ns
  have h2 : PyData.depth (.tuple (ns.map .int)) ≤ 64 := by
    have := depthAll_ints ns
    simp [PyData.depth, this]
  rw [h1, hy, decide_eq_true h2] <;> rfl
theorem plL (ns : List Int) : PyData.plain (.list (ns.map .int)) = true := plainAll_ints ns
theorem plT (ns : List Int) : PyData.plain (.tuple (ns.map .int)) = true := plainAll_ints ns
theorem dNe_lists (ns ms : List Int) : dNe (.list (ns.map .int)) (.list (ms.map .int)) = some (.bool (!decide (ns = ms))) := by
  show (if eqB _ _ = true then some (PyData.bool (!PyData.eqv _ _)) else none) = _
  rw [if_pos (eqB_lists ns _ (plL ms))]
  show some (PyData.bool (!PyData.eqvAll _ _)) = _
  rw [eqvAll_ints]
theorem dEq_lists (ns ms : List Int) : dEq (.list (ns.map .int)) (.list (ms.map .int)) = some (.bool (decide (ns = ms))) := by
  show (if eqB _ _ = true then some (PyData.bool (PyData.eqv _ _)) else none) = _
  rw [if_pos (eqB_lists ns _ (plL ms))]
  show some (PyData.bool (PyData.eqvAll _ _)) = _
  rw [eqvAll_ints]
theorem dNe_tups (ns ms : List Int) : dNe (.tuple (ns.map .int)) (.tuple (ms.map .int)) = some (.bool (!decide (ns = ms))) := by
  show (if eqB _ _ = true then some (PyData.bool (!PyData.eqv _ _)) else none) = _
  rw [if_pos (eqB_tups ns _ (plT ms))]
  show some (PyData.bool (!PyData.eqvAll _ _)) = _
  rw [eqvAll_ints]
theorem dEq_tups (ns ms : List Int) : dEq (.tuple (ns.map .int)) (.tuple (ms.map .int)) = some (.bool (decide (ns = ms))) := by
  show (if eqB _ _ = true then some (PyData.bool (PyData.eqv _ _)) else none) = _
  rw [if_pos (eqB_tups ns _ (plT ms))]
  show some (PyData.bool (PyData.eqvAll _ _)) = _
  rw [eqvAll_ints]
end Kk37
set_option Elab.async false
set_option linter.all false
set_option maxRecDepth 100000
set_option maxHeartbeats 1000000
namespace Kk37
open PySem PySem.Spec PyProof.Rows L2 DL
def outB (m a : Int) : Bool := !(decide (0 ≤ a) && decide (a < m))
def ovB (l : List Tm) (k : Nat) : Bool := decide ((l.getD (k + 1) (0, 0)).1 ≤ (l.getD k (0, 0)).2)
def ovL (l : List Tm) : List Int := ((List.range (l.length - 1)).filter (ovB l)).map fun k : Nat => (1 : Int) + (k : Int)
def dueB (ts : List Tm) (ns : List Int) (m : Int) : Bool :=
  decide ((ns.length : Int) = m) && (decide (ns = sortSet ns) && (decide (ns.filter (outB ts.length) = []) && decide (ovL (someL ts ns) = [])))
theorem S_is_due_n (ts : List Tm) (x : D) (m : Int) (hx : dIsi "tuple" x = some (.bool false)) : G__law_is_due [.d (.tuple (ts.map tD)), .d x, .d (.int m)] = .ok (.d (.bool false)) [none, none, none] := by
  simp [G__law_is_due, g__law_is_due, hx]
theorem dNe_nil : dNe (.list []) (.list []) = some (.bool false) := by
  have h := dNe_lists [] []
  rw [decide_eq_true (rfl : ([] : List Int) = [])] at h
  exact h
theorem dSeq_t (xs : List D) : dSeq (.tuple xs) = some xs := rfl
theorem isi_int (n : Int) : dIsi "int" (.int n) = some (.bool true) := rfl
theorem isi_intb (n : Int) : dIsi "bool" (.int n) = some (.bool false) := by
  have h : kitB "int" "bool" = some false := by decide
  simp [dIsi, dTy, h]
theorem isi_tup (xs : List D) : dIsi "tuple" (.tuple xs) = some (.bool true) := rfl
theorem dNe_ii' (a b : Int) : dNe (.int a) (.int b) = some (.bool (!decide (a = b))) := rfl
theorem cSortSet_ints (ns : List Int) (h : ns.length < 64) : cSortSet (.tuple (ns.map .int)) = some (.l ((sortSet ns).map .int)) := by
  show ((intsOf (ns.map PyData.int)).bind fun ns => if ns.length < 60 + 4 then some (OC.l ((sortSet ns).map .int)) else none) = _
  rw [intsOf_map]
  show (if ns.length < 60 + 4 then some (OC.l ((sortSet ns).map .int)) else none) = _
  rw [if_pos h]
theorem rng_1 {n : Nat} (h : n ≤ 2000) : dRng (.int 1) (.int (n : Nat)) = some (rangeD 1 (n - 1)) := by
  show (if rng2 1 (n : Int) then some (rangeD 1 ((n : Int) - 1).toNat) else none) = _
  have e : ((n : Int) - 1).toNat = n - 1 := by omega
  have hr : rng2 1 (n : Int) := by
    unfold rng2
    generalize hB : (2 : Int) ^ 62 = B
    have hB' : (4000 : Int) ≤ B := by rw [← hB]; decide
    refine ⟨?_, ?_, ?_, ?_⟩ <;> omega
  rw [if_pos hr, e]
theorem ov_z4 (ts : List Tm) (ns : List Int) (m : Int) (L : List Tm) (hL : L.length ≤ 1000) :
    gLc [4] (gBin dRng (gC (.int 1)) (gUn dLen (gVar 3))) (fName 4) (gT (gOp dLe (gOp dIx (gOp dIx (gVar 3) (gVar 4)) (gC (.int 0))) (gOp dIx (gOp dIx (gVar 3) (gOp dSub (gVar 4) (gC (.int 1)))) (gC (.int 1))))) (gVar 4) [some (.d (.tuple (ts.map tD))), some (.d (.tuple (ns.map .int))), some (.d (.int m)), some (.d (.list (L.map pD))), none]
            = .ok (.l ((ovL L).map .int)) [some (.d (.tuple (ts.map tD))), some (.d (.tuple (ns.map .int))), some (.d (.int m)), some (.d (.list (L.map pD))), none] := by
  unfold ovL
  rw [List.map_map]
  refine gLc_run (fun k : Nat => PyData.int (1 + (k : Int))) (ovB L) _ (List.range (L.length - 1)) ?_ (small_line (by rw [List.length_range]; omega)) fun k hk => ?_
  · have h := rng_1 (n := L.length) (by omega)
    have hd : gUn dLen (gVar 3) [some (.d (.tuple (ts.map tD))), some (.d (.tuple (ns.map .int))), some (.d (.int m)), some (.d (.list (L.map pD))), none] = .ok (.int (L.length : Nat)) [some (.d (.tuple (ts.map tD))), some (.d (.tuple (ns.map .int))), some (.d (.int m)), some (.d (.list (L.map pD))), none] := by simp
    rw [gBin_ap, gC_ap, bind_ok, hd, bind_ok, h, opt_some]
    unfold rangeD
    rfl
  · have hk' : k < L.length - 1 := List.mem_range.mp hk
    have e1 : dIx (.list (L.map pD)) (.int (1 + (k : Int))) = some (pD (L.getD (k + 1) (0, 0))) := by
      rw [show (1 : Int) + (k : Int) = ((k + 1 : Nat) : Int) from by omega]
      refine dIx_l ?_
      rw [List.getElem?_map, List.getElem?_eq_getElem (by omega), List.getD_eq_getElem?_getD, List.getElem?_eq_getElem (by omega)]
      rfl
    have e2 : dIx (.list (L.map pD)) (.int (1 + (k : Int) - 1)) = some (pD (L.getD k (0, 0))) := by
      rw [show (1 : Int) + (k : Int) - 1 = (k : Int) from by omega]
      refine dIx_l ?_
      rw [List.getElem?_map, List.getElem?_eq_getElem (by omega), List.getD_eq_getElem?_getD, List.getElem?_eq_getElem (by omega)]
      rfl
    unfold ovB
    generalize L.getD (k + 1) (0, 0) = q1 at e1
    generalize L.getD k (0, 0) = q2 at e2
    by_cases c : q1.1 ≤ q2.2 <;> simp [lcOne, e1, e2, pD_0, pD_1, c]
theorem S_is_due_t {ts : List Tm} (v : Val ts) (ns : List Int) (hl : ns.length ≤ 1000) (m : Int) (hm : m ≤ 60) :
    G__law_is_due [.d (.tuple (ts.map tD)), .d (.tuple (ns.map .int)), .d (.int m)] = .ok (.d (.bool (dueB ts ns m))) [none, none, none] := by
  have z1 : gLc [4] (gItT (gVar 1)) (fName 4) (gOr (gNot (gT (gUn (dIsi "int") (gVar 4)))) (gT (gUn (dIsi "bool") (gVar 4)))) (gVar 4) [some (.d (.tuple (ts.map tD))), some (.d (.tuple (ns.map .int))), some (.d (.int m)), none, none]
      = .ok (.l ((ns.filter fun _ => false).map .int)) [some (.d (.tuple (ts.map tD))), some (.d (.tuple (ns.map .int))), some (.d (.int m)), none, none] :=
    gLc_run PyData.int (fun _ => false) _ ns (by simp) (small_line (by omega)) fun i _ => by simp [lcOne, isi_int, isi_intb]
  have z1' : (ns.filter fun _ => false) = [] := by simp
  rw [z1'] at z1
  show toRF 3 (g__law_is_due _) = _
  unfold g__law_is_due dueB
  rw [show ([SV.d (PyData.tuple (ts.map tD)), SV.d (PyData.tuple (ns.map .int)), SV.d (.int m)].map some ++ List.replicate 2 none : SS) = [some (.d (.tuple (ts.map tD))), some (.d (.tuple (ns.map .int))), some (.d (.int m)), none, none] from rfl]
  by_cases c1 : (ns.length : Int) = m
  · have z2 : gLc [4] (gItT (gVar 1)) (fName 4) (gNot (gT (gChain dLe dLt (gC (.int 0)) (gVar 4) (gUn dLen (gVar 0))))) (gVar 4) [some (.d (.tuple (ts.map tD))), some (.d (.tuple (ns.map .int))), some (.d (.int m)), none, none]
        = .ok (.l ((ns.filter (outB ts.length)).map .int)) [some (.d (.tuple (ts.map tD))), some (.d (.tuple (ns.map .int))), some (.d (.int m)), none, none] :=
      gLc_run PyData.int (outB ts.length) _ ns (by simp) (small_line (by omega)) fun i _ => by
        by_cases c : 0 ≤ i <;> by_cases c' : i < (ts.length : Int) <;> simp [lcOne, outB, c, c']
    have hss := cSortSet_ints ns (by omega)
    rw [gSeq_ap]
    have hA : gIf (gOr (gNot (gT (gUn (dIsi "tuple") (gVar 1)))) (gOr (gT (gOp dNe (gUn dLen (gVar 1)) (gVar 2))) (gT (gOp dNe (gD (gLc [4] (gItT (gVar 1)) (fName 4) (gOr (gNot (gT (gUn (dIsi "int") (gVar 4)))) (gT (gUn (dIsi "bool") (gVar 4)))) (gVar 4))) (gD (gLst (gNil))))))) (gRet (gC (.bool false))) (gSkip)
        [some (.d (.tuple (ts.map tD))), some (.d (.tuple (ns.map .int))), some (.d (.int m)), none, none] = .ok .nx [some (.d (.tuple (ts.map tD))), some (.d (.tuple (ns.map .int))), some (.d (.int m)), none, none] := by
      simp [isi_tup, c1, z1, dNe_nil]
    rw [hA]
    dsimp only
    rw [gSeq_ap]
    by_cases c2 : ns = sortSet ns
    · by_cases c3 : ns.filter (outB ts.length) = []
      · have hB : gIf (gOr (gT (gOp dNe (gD (gUnN cList (gVar 1))) (gD (gUnN cSortSet (gVar 1))))) (gT (gOp dNe (gD (gLc [4] (gItT (gVar 1)) (fName 4) (gNot (gT (gChain dLe dLt (gC (.int 0)) (gVar 4) (gUn dLen (gVar 0))))) (gVar 4))) (gD (gLst (gNil)))))) (gRet (gC (.bool false))) (gSkip)
            [some (.d (.tuple (ts.map tD))), some (.d (.tuple (ns.map .int))), some (.d (.int m)), none, none] = .ok .nx [some (.d (.tuple (ts.map tD))), some (.d (.tuple (ns.map .int))), some (.d (.int m)), none, none] := by
          rw [c3] at z2
          have e := dNe_lists ns (sortSet ns)
          rw [show (decide (ns = sortSet ns)) = true from decide_eq_true c2] at e
          simp [z2, dNe_nil, hss, e, cList, dSeq_t]
        rw [hB]
        dsimp only
        have z3 : gLc [4] (gItT (gVar 1)) (fName 4) (gYes) (gOp dIx (gVar 0) (gVar 4)) [some (.d (.tuple (ts.map tD))), some (.d (.tuple (ns.map .int))), some (.d (.int m)), none, none]
            = .ok (.l ((ns.map (lotAt ts)).map pD)) [some (.d (.tuple (ts.map tD))), some (.d (.tuple (ns.map .int))), some (.d (.int m)), none, none] := by
          rw [List.map_map]
          refine gLc_map PyData.int _ ns (by simp) (small_line (by omega)) fun i hi => ?_
          have hr : inR ts.length i = true := by
            have hf := List.filter_eq_nil_iff.mp c3 i hi
            unfold outB at hf
            unfold inR
            simp at hf
            simp
            omega
          simp [lcOne, ix_lot hr]
        have hs := cSorted_lots (ns.map (lotAt ts)) (by simp; omega)
        have hs' : cSorted (.list ((ns.map (lotAt ts)).map pD)) = some (.l ((someL ts ns).map pD)) := hs
        have hl2 : (someL ts ns).length = ns.length := by simp [someL]
        have hC : gAsg 3 (gD (gUnN cSorted (gD (gLc [4] (gItT (gVar 1)) (fName 4) (gYes) (gOp dIx (gVar 0) (gVar 4)))))) [some (.d (.tuple (ts.map tD))), some (.d (.tuple (ns.map .int))), some (.d (.int m)), none, none]
            = .ok .nx [some (.d (.tuple (ts.map tD))), some (.d (.tuple (ns.map .int))), some (.d (.int m)), some (.d (.list ((someL ts ns).map pD))), none] := by
          rw [gAsg_ap, gD_ap, gUnN_ap, gD_ap, z3]
          simp only [bind_ok, OC.toD, hs', opt_some]
          rfl
        rw [gSeq_ap, hC]
        dsimp only
        generalize hL : someL ts ns = L at hl2
        have z4 := ov_z4 ts ns m L (by omega)
        have h9 := dEq_lists (ovL L) []
        have h10 : dEq (.list ((ovL L).map .int)) (.list []) = some (.bool (decide (ovL L = []))) := h9
        rw [gRet_ap, gOp_ap, gD_ap, z4, decide_eq_true c1, decide_eq_true c2, decide_eq_true c3]
        simp [h10]
      · rw [show gIf (gOr (gT (gOp dNe (gD (gUnN cList (gVar 1))) (gD (gUnN cSortSet (gVar 1))))) (gT (gOp dNe (gD (gLc [4] (gItT (gVar 1)) (fName 4) (gNot (gT (gChain dLe dLt (gC (.int 0)) (gVar 4) (gUn dLen (gVar 0))))) (gVar 4))) (gD (gLst (gNil)))))) (gRet (gC (.bool false))) (gSkip)
            [some (.d (.tuple (ts.map tD))), some (.d (.tuple (ns.map .int))), some (.d (.int m)), none, none] = .ok (.rt (.d (.bool false))) [some (.d (.tuple (ts.map tD))), some (.d (.tuple (ns.map .int))), some (.d (.int m)), none, none] from by
          have e := dNe_lists ns (sortSet ns)
          rw [show (decide (ns = sortSet ns)) = true from decide_eq_true c2] at e
          have e2 := dNe_lists (ns.filter (outB ts.length)) []
          rw [show (decide (ns.filter (outB ts.length) = [])) = false from decide_eq_false c3] at e2
          have e3 : dNe (.list ((ns.filter (outB ts.length)).map .int)) (.list []) = some (.bool true) := e2
          simp [z2, e3, hss, e, cList, dSeq_t]]
        dsimp only
        rw [decide_eq_false c3]
        simp
    · rw [show gIf (gOr (gT (gOp dNe (gD (gUnN cList (gVar 1))) (gD (gUnN cSortSet (gVar 1))))) (gT (gOp dNe (gD (gLc [4] (gItT (gVar 1)) (fName 4) (gNot (gT (gChain dLe dLt (gC (.int 0)) (gVar 4) (gUn dLen (gVar 0))))) (gVar 4))) (gD (gLst (gNil)))))) (gRet (gC (.bool false))) (gSkip)
            [some (.d (.tuple (ts.map tD))), some (.d (.tuple (ns.map .int))), some (.d (.int m)), none, none] = .ok (.rt (.d (.bool false))) [some (.d (.tuple (ts.map tD))), some (.d (.tuple (ns.map .int))), some (.d (.int m)), none, none] from by
          have e := dNe_lists ns (sortSet ns)
          rw [show (decide (ns = sortSet ns)) = false from decide_eq_false c2] at e
          simp [hss, e, cList, dSeq_t]]
      dsimp only
      rw [decide_eq_false c2]
      simp
  · simp [isi_tup, c1]
end Kk37
set_option Elab.async false
set_option linter.all false
set_option maxRecDepth 100000
set_option maxHeartbeats 1000000
namespace Kk37
open PySem PySem.Spec PyProof.Rows L2 DL
def laterB (a : Int) (t : Tm) : Bool := decide (a < t.1)
def leftL (ts : List Tm) (a : Int) : List Tm := ts.filter (laterB a)
def lastAt (ks : List Int) (j : Nat) : Int := (-1 :: ks).getD j 0
structure Late (ts : List Tm) (ks : List Int) : Prop where
  each : ∀ j k, ks[j]? = some k → minI ((leftL ts (lastAt ks j)).map (·.2)) = some k
  done : leftL ts (lastAt ks ks.length) = []
theorem dMin_ints (l : List Int) : dMin (.list (l.map .int)) = (minI l).map .int := by
  show (intsOf (l.map PyData.int)).bind (fun ns => (minI ns).map PyData.int) = _
  rw [intsOf_map]
  rfl
theorem gFilt (ts : List Tm) (x1 u3 u4 : Option SV) (a : Int) : gLc [5] (gItT (gVar 0)) (fName 5) (gT (gOp dGt (gOp dIx (gVar 5) (gC (.int 0))) (gVar 2))) (gVar 5) [some (.d (.tuple (ts.map tD))), x1, some (.d (.int a)), u3, u4, none]
    = if ts.length ≤ 1000 then .ok (.l ((leftL ts a).map tD)) [some (.d (.tuple (ts.map tD))), x1, some (.d (.int a)), u3, u4, none] else gLc [5] (gItT (gVar 0)) (fName 5) (gT (gOp dGt (gOp dIx (gVar 5) (gC (.int 0))) (gVar 2))) (gVar 5) [some (.d (.tuple (ts.map tD))), x1, some (.d (.int a)), u3, u4, none] := by
  split
  · rename_i hl
    refine gLc_run tD (laterB a) tD ts (by simp) (small_line (by omega)) fun t _ => ?_
    unfold laterB
    by_cases c : a < t.1
    · (simp [lcOne, tD_pD, pD_0, c]; refine ⟨?_, ?_, ?_⟩ <;> split <;> simp_all)
    · (simp [lcOne, tD_pD, pD_0, c]; refine ⟨?_, ?_, ?_⟩ <;> split <;> simp_all)
  · rfl
abbrev bodyLate : SS → R Fl := gSeq (gAsg 4 (gD (gLc [5] (gItT (gVar 0)) (fName 5) (gT (gOp dGt (gOp dIx (gVar 5) (gC (.int 0))) (gVar 2))) (gVar 5)))) (gSeq (gIf (gT (gOp dNe (gVar 3) (gUn dMin (gD (gLc [5] (gItL (gVar 4)) (fName 5) (gYes) (gOp dIx (gVar 5) (gC (.int 1)))))))) (gRet (gC (.bool false))) (gSkip)) (gAsg 2 (gVar 3)))
theorem S_as_late {ts : List Tm} (v : Val ts) (ks : List Int) (h : Late ts ks) : G__law_as_late [.d (.tuple (ts.map tD)), .d (.tuple (ks.map .int))] = .ok (.d (.bool true)) [none, none] := by
  obtain ⟨fl, δ', e, h1⟩ := for_run (B := fun _ => False) (T := fun _ _ => False) (tg := fName 3) (gb := bodyLate) (ks.map PyData.int)
    (fun j δ => ∃ (u3 u4 : Option SV), δ = [some (.d (.tuple (ts.map tD))), some (.d (.tuple (ks.map .int))), some (.d (.int (lastAt ks j))), u3, u4, none])
    [some (.d (.tuple (ts.map tD))), some (.d (.tuple (ks.map .int))), some (.d (.int (-1))), none, none, none] ⟨none, none, rfl⟩
    (fun j d δ hd ⟨u3, u4, e⟩ => by
      subst e
      rw [List.getElem?_map] at hd
      cases hk : ks[j]? with
      | none =>
        rw [hk] at hd
        cases hd
      | some k =>
        rw [hk] at hd
        cases hd
        have hm := h.each j k hk
        have hF : ∀ x1 u3 u4 a, _ := fun x1 u3 u4 a => (gFilt ts x1 u3 u4 a).trans (if_pos (by have := v.len; omega))
        have hd2 := dMin_ints ((leftL ts (lastAt ks j)).map (·.2))
        rw [hm] at hd2
        have hla : lastAt ks (j + 1) = k := by
          unfold lastAt
          rw [List.getD_cons_succ, List.getD_eq_getElem?_getD, hk]
          rfl
        have z2 : gLc [5] (gItL (gVar 4)) (fName 5) (gYes) (gOp dIx (gVar 5) (gC (.int 1))) [some (.d (.tuple (ts.map tD))), some (.d (.tuple (ks.map .int))), some (.d (.int (lastAt ks j))), some (.d (.int k)), some (.d (.list ((leftL ts (lastAt ks j)).map tD))), none]
            = .ok (.l (((leftL ts (lastAt ks j)).map (·.2)).map .int)) [some (.d (.tuple (ts.map tD))), some (.d (.tuple (ks.map .int))), some (.d (.int (lastAt ks j))), some (.d (.int k)), some (.d (.list ((leftL ts (lastAt ks j)).map tD))), none] := by
          rw [List.map_map]
          refine gLc_map tD _ (leftL ts (lastAt ks j)) (by simp) (small_line ?_) fun t _ => by simp [lcOne, tD_pD, pD_1]
          have h1 : (leftL ts (lastAt ks j)).length ≤ ts.length := List.length_filter_le ..
          have := v.len
          omega
        refine ⟨[some (.d (.tuple (ts.map tD))), some (.d (.tuple (ks.map .int))), some (.d (.int (lastAt ks j))), some (.d (.int k)), u4, none], rfl, .nx, [some (.d (.tuple (ts.map tD))), some (.d (.tuple (ks.map .int))), some (.d (.int k)), some (.d (.int k)), some (.d (.list ((leftL ts (lastAt ks j)).map tD))), none], ?_, some (.d (.int k)), some (.d (.list ((leftL ts (lastAt ks j)).map tD))), ?_⟩
        · unfold bodyLate
          rw [gSeq_ap, gAsg_ap, gD_ap, hF]
          have hM : gUn dMin (gD (gLc [5] (gItL (gVar 4)) (fName 5) (gYes) (gOp dIx (gVar 5) (gC (.int 1))))) [some (.d (.tuple (ts.map tD))), some (.d (.tuple (ks.map .int))), some (.d (.int (lastAt ks j))), some (.d (.int k)), some (.d (.list ((leftL ts (lastAt ks j)).map tD))), none]
              = .ok (.int k) [some (.d (.tuple (ts.map tD))), some (.d (.tuple (ks.map .int))), some (.d (.int (lastAt ks j))), some (.d (.int k)), some (.d (.list ((leftL ts (lastAt ks j)).map tD))), none] := by
            rw [gUn_ap, gD_ap, z2]
            simp only [bind_ok, OC.toD, hd2]
            rfl
          have hA : ∀ δ : SS, R.ok (OC.l ((leftL ts (lastAt ks j)).map tD)) δ = R.ok (OC.l ((leftL ts (lastAt ks j)).map tD)) δ := fun _ => rfl
          simp only [bind_ok, OC.toD]
          simp [-gUn_ap, hM]
        · rw [hla])
  cases fl with
  | nx =>
    rcases h1 with ⟨u3, u4, rfl⟩ | h1
    · have hF := (gFilt ts (some (.d (.tuple (ks.map .int)))) u3 u4 (lastAt ks ks.length)).trans (if_pos (by have := v.len; omega))
      rw [h.done] at hF
      rw [List.length_map] at e
      show toRF 2 (g__law_as_late _) = _
      unfold g__law_as_late
      rw [gSeq_ap, show ([SV.d (PyData.tuple (ts.map tD)), SV.d (PyData.tuple (ks.map .int))].map some ++ List.replicate 4 none : SS) = [some (.d (.tuple (ts.map tD))), some (.d (.tuple (ks.map .int))), none, none, none, none] from rfl,
        show gAsg 2 (gUn dNeg (gC (.int 1))) [some (.d (.tuple (ts.map tD))), some (.d (.tuple (ks.map .int))), none, none, none, none] = .ok .nx [some (.d (.tuple (ts.map tD))), some (.d (.tuple (ks.map .int))), some (.d (.int (-1))), none, none, none] by simp]
      dsimp only
      rw [gSeq_ap, gFor_ap, show gItT (gVar 1) [some (.d (.tuple (ts.map tD))), some (.d (.tuple (ks.map .int))), some (.d (.int (-1))), none, none, none] = .ok (ks.map .int) [some (.d (.tuple (ts.map tD))), some (.d (.tuple (ks.map .int))), some (.d (.int (-1))), none, none, none] by simp, bind_ok]
      unfold bodyLate at e
      rw [e]
      dsimp only
      rw [gRet_ap, gOp_ap, gD_ap, hF]
      have h9 : dEq (.list []) (.list []) = some (.bool true) := by
        have h := dEq_lists [] []
        rw [decide_eq_true (rfl : ([] : List Int) = [])] at h
        exact h
      simp [h9]
    · exact h1.elim
  | bk => exact h1.elim
  | ct => exact h1.elim
  | rt v => exact h1.elim
end Kk37
set_option Elab.async false
set_option linter.all false
set_option maxRecDepth 100000
set_option maxHeartbeats 1000000
namespace Kk37
open PySem PySem.Spec PyProof.Rows L2 DL
/-! ### the greedy choice -/
def gr (ts : List Tm) (a : Int) : List (Int × Int) → List (Int × Int)
  | [] => []
  | p :: l => if a < startOf ts p.2 then p :: gr ts p.1 l else gr ts a l
theorem foldl_gr (ts : List Tm) : ∀ (l acc : List (Int × Int)) (a : Int), (l.foldl (step ts) (acc, a)).1 = acc ++ gr ts a l
  | [], acc, a => by simp [gr]
  | p :: l, acc, a => by
    rw [List.foldl_cons]
    by_cases c : a < startOf ts p.2
    · have e : step ts (acc, a) p = (acc ++ [p], p.1) := if_pos c
      rw [e, foldl_gr ts l (acc ++ [p]) p.1, gr, if_pos c]
      simp
    · have e : step ts (acc, a) p = (acc, a) := if_neg c
      rw [e, foldl_gr ts l acc a, gr, if_neg c]
theorem inspL_gr (ts : List Tm) : inspL ts = gr ts (-1) (byEnd ts) := by
  unfold inspL
  rw [foldl_gr]
  rfl
theorem gr_split (ts : List Tm) : ∀ (l : List (Int × Int)) (a : Int), l.Pairwise (fun p q => p.1 ≤ q.1) → (∀ p ∈ l, startOf ts p.2 ≤ p.1) →
    (gr ts a l = [] ∧ ∀ q ∈ l, ¬ a < startOf ts q.2) ∨ (∃ p ∈ l, gr ts a l = p :: gr ts p.1 l ∧ a < startOf ts p.2 ∧ ∀ q ∈ l, a < startOf ts q.2 → p.1 ≤ q.1)
  | [], a, _, _ => .inl ⟨rfl, by simp⟩
  | q :: l, a, hp, hs => by
    obtain ⟨h1, h2⟩ := List.pairwise_cons.mp hp
    have hq := hs q (List.mem_cons_self ..)
    by_cases c : a < startOf ts q.2
    · refine .inr ⟨q, List.mem_cons_self .., ?_, c, ?_⟩
      · have e : gr ts q.1 (q :: l) = gr ts q.1 l := by
          rw [gr]
          rw [if_neg (by omega)]
        rw [e, gr, if_pos c]
      · intro r hr _
        rcases List.mem_cons.mp hr with rfl | hr
        · exact Int.le_refl _
        · exact h1 r hr
    · have e : gr ts a (q :: l) = gr ts a l := by
        rw [gr]
        rw [if_neg c]
      rcases gr_split ts l a h2 fun p hp => hs p (List.mem_cons_of_mem _ hp) with ⟨h3, h4⟩ | ⟨p, h3, h4, h5, h6⟩
      · refine .inl ⟨by rw [e, h3], fun r hr => ?_⟩
        rcases List.mem_cons.mp hr with rfl | hr
        · exact c
        · exact h4 r hr
      · refine .inr ⟨p, List.mem_cons_of_mem _ h3, ?_, h5, ?_⟩
        · have hp1 := hs p (List.mem_cons_of_mem _ h3)
          have e2 : gr ts p.1 (q :: l) = gr ts p.1 l := by
            rw [gr]
            rw [if_neg (by omega)]
          rw [e, h4, e2]
        · intro r hr ha
          rcases List.mem_cons.mp hr with rfl | hr
          · exact absurd ha c
          · exact h6 r hr ha
/-- ticks that are as late as can be -/
inductive Chain (ts : List Tm) : Int → List (Int × Int) → Prop
  | nil {a : Int} : (∀ t ∈ ts, ¬ a < t.1) → Chain ts a []
  | cons {a : Int} {t : Tm} {i : Nat} {r : List (Int × Int)} : ts[i]? = some t → a < t.1 → (∀ u ∈ ts, a < u.1 → t.2 ≤ u.2) → Chain ts t.2 r → Chain ts a ((t.2, (i : Int)) :: r)
theorem leP_total (p q : Int × Int) : (leP p q || leP q p) = true := by
  unfold leP
  simp only [Bool.or_eq_true, decide_eq_true_eq]
  omega
theorem leP_trans (p q r : Int × Int) (h1 : leP p q = true) (h2 : leP q r = true) : leP p r = true := by
  unfold leP at *
  simp only [decide_eq_true_eq] at *
  omega
theorem byEnd_pw (ts : List Tm) : (byEnd ts).Pairwise (fun p q => leP p q = true) :=
  List.pairwise_mergeSort leP_trans leP_total _
theorem byEnd_pw1 (ts : List Tm) : (byEnd ts).Pairwise (fun p q => p.1 ≤ q.1) :=
  (byEnd_pw ts).imp fun {p q} h => by
    unfold leP at h
    simp only [decide_eq_true_eq] at h
    omega
theorem start_of {ts : List Tm} {i : Nat} {t : Tm} (h : ts[i]? = some t) : startOf ts (i : Int) = t.1 := by
  unfold startOf
  rw [Int.toNat_natCast, List.getD_eq_getElem?_getD, h]
  rfl
theorem byEnd_has {ts : List Tm} {i : Nat} {t : Tm} (h : ts[i]? = some t) : (t.2, (i : Int)) ∈ byEnd ts := by
  unfold byEnd
  rw [List.mem_mergeSort]
  exact List.mem_map.mpr ⟨(t, i), List.mem_zipIdx_iff_getElem?.mpr h, rfl⟩
theorem chain_gr {ts : List Tm} (v : Val ts) : ∀ (n : Nat) (a : Int), (gr ts a (byEnd ts)).length ≤ n → Chain ts a (gr ts a (byEnd ts)) := by
  have hs : ∀ p ∈ byEnd ts, startOf ts p.2 ≤ p.1 := fun p hp => by
    obtain ⟨i, t, ht, rfl⟩ := byEnd_mem hp
    rw [start_of ht]
    exact (val_at v (List.mem_of_getElem? ht)).2.1
  have hnil : ∀ a : Int, (∀ q ∈ byEnd ts, ¬ a < startOf ts q.2) → ∀ t ∈ ts, ¬ a < t.1 := fun a h t ht => by
    obtain ⟨i, hi⟩ := List.getElem?_of_mem ht
    have := h _ (byEnd_has hi)
    rw [start_of hi] at this
    exact this
  intro n
  induction n with
  | zero =>
    intro a hl
    rcases gr_split ts (byEnd ts) a (byEnd_pw1 ts) hs with ⟨h3, h4⟩ | ⟨p, h3, h4, h5, h6⟩
    · rw [h3]
      exact .nil (hnil a h4)
    · rw [h4] at hl
      simp at hl
  | succ n ih =>
    intro a hl
    rcases gr_split ts (byEnd ts) a (byEnd_pw1 ts) hs with ⟨h3, h4⟩ | ⟨p, h3, h4, h5, h6⟩
    · rw [h3]
      exact .nil (hnil a h4)
    · rw [h4] at hl ⊢
      obtain ⟨i, t, ht, rfl⟩ := byEnd_mem h3
      rw [start_of ht] at h5
      refine .cons ht h5 (fun u hu ha => ?_) (ih t.2 (by simp only [List.length_cons] at hl; omega))
      obtain ⟨j, hj⟩ := List.getElem?_of_mem hu
      exact h6 _ (byEnd_has hj) (by rw [start_of hj]; exact ha)
theorem chain_insp {ts : List Tm} (v : Val ts) : Chain ts (-1) (inspL ts) := by
  rw [inspL_gr]
  exact chain_gr v _ _ (Nat.le_refl _)
/-! what a chain tells -/
def tks (l : List (Int × Int)) : List Int := l.map (·.1)
theorem chain_gt {ts : List Tm} (v : Val ts) {a : Int} {l : List (Int × Int)} (h : Chain ts a l) : ∀ k ∈ tks l, a < k := by
  induction h with
  | nil _ => simp [tks]
  | cons h1 h2 h3 h4 ih =>
    rename_i a t i r
    have hv := val_at v (List.mem_of_getElem? h1)
    intro k hk
    unfold tks at hk
    rw [List.map_cons, List.mem_cons] at hk
    rcases hk with rfl | hk
    · show a < t.2
      omega
    · have := ih k hk
      omega
theorem chain_asc {ts : List Tm} (v : Val ts) {a : Int} {l : List (Int × Int)} (h : Chain ts a l) : (tks l).Pairwise (· < ·) := by
  induction h with
  | nil _ => exact .nil
  | cons h1 h2 h3 h4 ih => exact List.pairwise_cons.mpr ⟨fun k hk => chain_gt v h4 k hk, ih⟩
theorem chain_cover {ts : List Tm} {a : Int} {l : List (Int × Int)} (h : Chain ts a l) : ∀ t ∈ ts, a < t.1 → ∃ k ∈ tks l, t.1 ≤ k ∧ k ≤ t.2 := by
  induction h with
  | nil h => exact fun t ht ha => absurd ha (h t ht)
  | cons h1 h2 h3 h4 ih =>
    rename_i a t i r
    intro u hu ha
    by_cases c : u.1 ≤ t.2
    · exact ⟨t.2, by simp [tks], c, h3 u hu ha⟩
    · obtain ⟨k, hk, h⟩ := ih u hu (by omega)
      exact ⟨k, List.mem_cons_of_mem _ hk, h⟩
theorem chain_lot {ts : List Tm} (v : Val ts) {a : Int} {l : List (Int × Int)} (h : Chain ts a l) : ∀ k ∈ tks l, ∃ t ∈ ts, t.2 = k ∧ a < t.1 ∧ ∀ k' ∈ tks l, k' < k → k' < t.1 := by
  induction h with
  | nil h => simp [tks]
  | cons h1 h2 h3 h4 ih =>
    rename_i a t i r
    have hm := List.mem_of_getElem? h1
    have hv := val_at v hm
    intro k hk
    have hk' : k = t.2 ∨ k ∈ tks r := List.mem_cons.mp hk
    rcases hk' with rfl | hk'
    · refine ⟨t, hm, rfl, h2, fun k' hk2 hlt => ?_⟩
      rcases List.mem_cons.mp hk2 with e | hk2
      · have e : k' = t.2 := e
        omega
      · have := chain_gt v h4 k' hk2
        omega
    · obtain ⟨u, hu, e, ha, hall⟩ := ih k hk'
      refine ⟨u, hu, e, by omega, fun k' hk2 hlt => ?_⟩
      rcases List.mem_cons.mp hk2 with e | hk2
      · have e : k' = t.2 := e
        omega
      · exact hall k' hk2 hlt
/-! as late as can be -/
theorem min_of {xs : List Int} {m : Int} (h : m ∈ xs) (h2 : ∀ x ∈ xs, m ≤ x) : minI xs = some m := by
  cases xs with
  | nil => cases h
  | cons x xs =>
    unfold minI
    obtain ⟨h3, h4, h5⟩ := foldl_min_le xs x
    have h6 : xs.foldl min x ∈ x :: xs := by
      rcases h5 with h5 | h5
      · rw [h5]
        exact List.mem_cons_self ..
      · exact List.mem_cons_of_mem _ h5
    have h7 := h2 _ h6
    show some (xs.foldl min x) = some m
    refine congrArg some (Int.le_antisymm ?_ h7)
    rcases List.mem_cons.mp h with rfl | h
    · exact h3
    · exact h4 m h
theorem chain_late {ts : List Tm} {a : Int} {l : List (Int × Int)} (h : Chain ts a l) :
    (∀ j k, (tks l)[j]? = some k → minI ((leftL ts ((a :: tks l).getD j 0)).map (·.2)) = some k) ∧ leftL ts ((a :: tks l).getD (tks l).length 0) = [] := by
  induction h with
  | nil h =>
    refine ⟨fun j k hk => by simp [tks] at hk, ?_⟩
    show leftL ts _ = []
    unfold leftL
    rw [List.filter_eq_nil_iff]
    intro t ht
    unfold laterB
    simpa [tks] using h t ht
  | cons h1 h2 h3 h4 ih =>
    rename_i a t i r
    obtain ⟨i1, i2⟩ := ih
    refine ⟨fun j k hk => ?_, i2⟩
    cases j with
    | zero =>
      have e : t.2 = k := by
        have : (tks ((t.2, (i : Int)) :: r))[0]? = some t.2 := rfl
        rw [this] at hk
        exact Option.some.inj hk
      subst e
      rw [List.getD_cons_zero]
      refine min_of (List.mem_map.mpr ⟨t, ?_, rfl⟩) fun x hx => ?_
      · unfold leftL
        rw [List.mem_filter]
        exact ⟨List.mem_of_getElem? h1, decide_eq_true h2⟩
      · obtain ⟨u, hu, rfl⟩ := List.mem_map.mp hx
        unfold leftL at hu
        rw [List.mem_filter] at hu
        exact h3 u hu.1 (of_decide_eq_true hu.2)
    | succ j =>
      rw [List.getD_cons_succ]
      exact i1 j k hk
theorem late_insp {ts : List Tm} (v : Val ts) : Late ts (tks (inspL ts)) := by
  obtain ⟨h1, h2⟩ := chain_late (chain_insp v)
  exact ⟨h1, h2⟩
/-! as few as the greatest number of lots apart -/
def cnt (ks : List Int) (j : Int) : Nat := ks.countP fun k => decide (k < j)
theorem cnt_mono (ks : List Int) {i j : Int} (h : i ≤ j) : cnt ks i ≤ cnt ks j := by
  unfold cnt
  refine List.countP_mono_left fun k _ hk => ?_
  have := of_decide_eq_true hk
  exact decide_eq_true (by omega)
theorem cnt_eq (ks : List Int) {i j : Int} (h : ∀ k ∈ ks, k < i ↔ k < j) : cnt ks i = cnt ks j := by
  unfold cnt
  exact List.countP_congr fun k hk => by simpa using h k hk
theorem cnt_succ_out (ks : List Int) {j : Int} (h : j ∉ ks) : cnt ks (j + 1) = cnt ks j :=
  cnt_eq ks fun k hk => ⟨fun z => by
    have : k ≠ j := fun e => h (e ▸ hk)
    omega, fun z => by omega⟩
theorem cnt_succ_in : ∀ (ks : List Int) {j : Int}, ks.Pairwise (· < ·) → j ∈ ks → cnt ks (j + 1) = cnt ks j + 1
  | k :: ks, j, hp, hj => by
    obtain ⟨h1, h2⟩ := List.pairwise_cons.mp hp
    rcases List.mem_cons.mp hj with rfl | hj
    · have h : j ∉ ks := fun z => by have := h1 j z; omega
      have e := cnt_succ_out ks h
      unfold cnt at *
      rw [List.countP_cons, List.countP_cons, e]
      simp
      omega
    · have e := cnt_succ_in ks h2 hj
      have := h1 j hj
      unfold cnt at *
      rw [List.countP_cons, List.countP_cons, e]
      have c1 : decide (k < j + 1) = true := decide_eq_true (by omega)
      have c2 : decide (k < j) = true := decide_eq_true (by omega)
      simp [c1, c2]
theorem cnt_lt (ks : List Int) {i j k : Int} (hp : ks.Pairwise (· < ·)) (hk : k ∈ ks) (h1 : i ≤ k) (h2 : k < j) : cnt ks i + 1 ≤ cnt ks j := by
  have e := cnt_succ_in ks hp hk
  have m1 := cnt_mono ks h1
  have m2 := cnt_mono ks (i := k + 1) (j := j) (by omega)
  omega
theorem best_cnt {ts : List Tm} (v : Val ts) (ks : List Int) (hks : ks = tks (inspL ts)) : ∀ n : Nat, bestL ts n = (List.range (n + 1)).map fun i : Nat => ((cnt ks (i : Int) : Nat) : Int)
  | 0 => by
    have h0 : cnt ks 0 = 0 := by
      unfold cnt
      rw [List.countP_eq_zero]
      intro k hk
      have := chain_gt v (chain_insp v) k (hks ▸ hk)
      simp
      omega
    simp [bestL, h0]
  | n + 1 => by
    have ih := best_cnt v ks hks n
    have hp : ks.Pairwise (· < ·) := hks ▸ chain_asc v (chain_insp v)
    unfold bestL
    rw [List.range_succ, List.map_append, ← ih]
    congr 1
    have hl : (bestL ts n).getLastD 0 = ((cnt ks (n : Int) : Nat) : Int) := by
      rw [ih, List.range_succ, List.map_append]
      simp
    have hg : ∀ s : Int, 0 ≤ s → s ≤ n → (bestL ts n).getD s.toNat 0 = ((cnt ks s : Nat) : Int) := fun s h1 h2 => by
      obtain ⟨i, rfl⟩ : ∃ i : Nat, s = (i : Int) := ⟨s.toNat, by omega⟩
      rw [ih, Int.toNat_natCast, List.getD_eq_getElem?_getD, List.getElem?_map, List.getElem?_range (by omega)]
      rfl
    have hmem : ∀ x, x ∈ ends ts (bestL ts n) n ↔ ∃ t ∈ ts, t.2 = (n : Int) ∧ x = ((cnt ks t.1 : Nat) : Int) + 1 := fun x => by
      unfold ends
      rw [List.mem_map]
      constructor
      · rintro ⟨t, ht, rfl⟩
        rw [List.mem_filter] at ht
        have e := of_decide_eq_true ht.2
        have hv := val_at v ht.1
        exact ⟨t, ht.1, e, by rw [hg t.1 (by omega) (by omega)]⟩
      · rintro ⟨t, ht, e, rfl⟩
        have hv := val_at v ht
        exact ⟨t, List.mem_filter.mpr ⟨ht, decide_eq_true e⟩, by rw [hg t.1 (by omega) (by omega)]⟩
    show [nxt ts (bestL ts n) n] = [_]
    congr 1
    unfold nxt
    rw [hl]
    obtain ⟨m1, m2, m3⟩ := foldl_max_ge (ends ts (bestL ts n) n) ((cnt ks (n : Int) : Nat) : Int)
    have hc : (((n + 1 : Nat) : Int)) = (n : Int) + 1 := by omega
    show _ = ((cnt ks (((n + 1 : Nat) : Int)) : Nat) : Int)
    rw [hc]
    by_cases c : (n : Int) ∈ ks
    · have e := cnt_succ_in ks hp c
      rw [e]
      obtain ⟨t, ht, e2, ha, hall⟩ := chain_lot v (chain_insp v) n (hks ▸ c)
      have hv := val_at v ht
      have e3 : cnt ks t.1 = cnt ks n := cnt_eq ks fun k hk => ⟨fun z => by omega, fun z => hall k (hks ▸ hk) z⟩
      have h1 := m2 _ ((hmem _).mpr ⟨t, ht, e2, rfl⟩)
      rw [e3] at h1
      rcases m3 with m3 | m3
      · omega
      · obtain ⟨u, hu, e4, e5⟩ := (hmem _).mp m3
        have hv := val_at v hu
        have := cnt_mono ks (i := u.1) (j := n) (by omega)
        omega
    · have e := cnt_succ_out ks c
      rw [e]
      rcases m3 with m3 | m3
      · exact m3
      · obtain ⟨u, hu, e4, e5⟩ := (hmem _).mp m3
        have hv := val_at v hu
        obtain ⟨k, hk, k1, k2⟩ := chain_cover (chain_insp v) u hu (by omega)
        have hk' : k ∈ ks := hks ▸ hk
        have : k ≠ n := fun z => c (z ▸ hk')
        have := cnt_lt ks hp hk' k1 (j := n) (by omega)
        omega
theorem most_insp {ts : List Tm} (v : Val ts) : mostL ts = ((inspL ts).length : Int) := by
  unfold mostL
  rw [best_cnt v _ rfl, List.range_succ, List.map_append]
  have e : cnt (tks (inspL ts)) (((topT ts).toNat : Nat) : Int) = (tks (inspL ts)).length := by
    unfold cnt
    rw [List.countP_eq_length]
    intro k hk
    obtain ⟨t, ht, e, _⟩ := chain_lot v (chain_insp v) k hk
    have h1 := (foldl_max_ge (ts.map fun t => t.2 + 1) 0).2.1 (t.2 + 1) (List.mem_map.mpr ⟨t, ht, rfl⟩)
    have h2 : t.2 + 1 ≤ topT ts := h1
    exact decide_eq_true (by omega)
  have e2 : (tks (inspL ts)).length = (inspL ts).length := by simp [tks]
  rw [e2] at e
  rw [List.map_singleton, List.getLastD_concat, e]
theorem gD_at {l : List Tm} {i : Nat} (h : i < l.length) : l.getD i (0, 0) = l[i] := by
  rw [List.getD_eq_getElem?_getD, List.getElem?_eq_getElem h]
  rfl
/-! the lots that are apart -/
theorem apartB_iff (l : List Tm) : apartB l = true ↔ ∀ k, k + 1 < l.length → (l.getD k (0, 0)).2 < (l.getD (k + 1) (0, 0)).1 := by
  unfold apartB
  rw [List.all_eq_true]
  constructor
  · intro h k hk
    have hz : k < (l.zip l.tail).length := by simp; omega
    have h1 := h _ (List.getElem_mem hz)
    have h2 := of_decide_eq_true h1
    simp only [List.getElem_zip, List.getElem_tail] at h2
    rw [gD_at (by omega), gD_at (by omega)]
    exact h2
  · intro h p hp
    obtain ⟨k, hk, rfl⟩ := List.getElem_of_mem hp
    have hk2 : k + 1 < l.length := by simp at hk; omega
    have := h k hk2
    rw [gD_at (by omega), gD_at (by omega)] at this
    unfold sepB
    simp only [List.getElem_zip, List.getElem_tail]
    exact decide_eq_true this
theorem ovL_iff (l : List Tm) : ovL l = [] ↔ ∀ k, k + 1 < l.length → (l.getD k (0, 0)).2 < (l.getD (k + 1) (0, 0)).1 := by
  unfold ovL
  rw [List.map_eq_nil_iff, List.filter_eq_nil_iff]
  constructor
  · intro h k hk
    have := h k (List.mem_range.mpr (by omega))
    unfold ovB at this
    simp only [decide_eq_true_eq] at this
    omega
  · intro h k hk
    have hk := List.mem_range.mp hk
    have := h k (by omega)
    unfold ovB
    simp only [decide_eq_true_eq]
    omega
theorem asc_iff (ns : List Int) : asc ns = true ↔ ns.Pairwise (· < ·) := by
  unfold asc
  rw [List.all_eq_true]
  induction ns with
  | nil => simp
  | cons x xs ih =>
    rw [List.pairwise_cons, ← ih]
    cases xs with
    | nil => simp
    | cons y ys =>
      simp only [List.tail_cons, List.zip_cons_cons, List.mem_cons, forall_eq_or_imp, decide_eq_true_eq] at ih ⊢
      constructor
      · rintro ⟨h1, h2⟩
        refine ⟨⟨h1, fun a ha => ?_⟩, h2⟩
        have h3 := (List.pairwise_cons.mp (ih.mp h2)).1 a ha
        omega
      · rintro ⟨⟨h1, _⟩, h2⟩
        exact ⟨h1, h2⟩
theorem sortSet_fix (ns : List Int) : ns = sortSet ns ↔ ns.Pairwise (· < ·) :=
  ⟨fun h => h ▸ sortSet_pw ns, fun h => pw_unique h (sortSet_pw ns) fun z => (sortSet_mem z ns).symm⟩
theorem allIn_iff (m : Int) (ns : List Int) : allIn m ns = true ↔ ns.filter (outB m) = [] := by
  unfold allIn
  rw [List.all_eq_true, List.filter_eq_nil_iff]
  refine forall_congr' fun i => forall_congr' fun _ => ?_
  unfold inR outB
  simp
  omega
theorem isAp_due (ts : List Tm) (ns : List Int) : isApB ts ns = dueB ts ns ((inspL ts).length : Int) := by
  rw [Bool.eq_iff_iff]
  unfold isApB dueB
  simp only [Bool.and_eq_true, decide_eq_true_eq]
  rw [allIn_iff, asc_iff, sortSet_fix, apartB_iff, ovL_iff]
  constructor
  · rintro ⟨h1, h2, h3, h4⟩
    exact ⟨by omega, h2, h1, h4⟩
  · rintro ⟨h1, h2, h3, h4⟩
    exact ⟨h3, h2, by omega, h4⟩
theorem chain_pair {ts : List Tm} (v : Val ts) {a : Int} {l : List (Int × Int)} (h : Chain ts a l) :
    (∀ p ∈ l, ∃ i : Nat, ∃ t, ts[i]? = some t ∧ p = (t.2, (i : Int)) ∧ a < t.1) ∧ (l.map fun p => lotAt ts p.2).Pairwise (fun q r => q.2 < r.1) := by
  induction h with
  | nil h => exact ⟨by simp, .nil⟩
  | cons h1 h2 h3 h4 ih =>
    rename_i a t i r
    obtain ⟨i1, i2⟩ := ih
    have hv := val_at v (List.mem_of_getElem? h1)
    have hlt : ∀ {i : Nat} {t : Tm}, ts[i]? = some t → lotAt ts (i : Int) = t := fun {i t} h => by
      unfold lotAt
      rw [Int.toNat_natCast, List.getD_eq_getElem?_getD, h]
      rfl
    refine ⟨fun p hp => ?_, ?_⟩
    · rcases List.mem_cons.mp hp with rfl | hp
      · exact ⟨i, t, h1, rfl, h2⟩
      · obtain ⟨j, u, hj, e, hl⟩ := i1 p hp
        exact ⟨j, u, hj, e, by omega⟩
    · rw [List.map_cons, List.pairwise_cons]
      refine ⟨fun q hq => ?_, i2⟩
      obtain ⟨p, hp, rfl⟩ := List.mem_map.mp hq
      obtain ⟨j, u, hj, rfl, hl⟩ := i1 p hp
      show (lotAt ts (i : Int)).2 < (lotAt ts (j : Int)).1
      rw [hlt h1, hlt hj]
      exact hl
theorem srt_perm (ns : List Int) : (srt ns).Perm ns := List.mergeSort_perm ns _
theorem srt_pw (ns : List Int) : (srt ns).Pairwise (· ≤ ·) := by
  have h := List.pairwise_mergeSort (le := fun a b : Int => decide (a ≤ b)) (fun a b c h1 h2 => by simp only [decide_eq_true_eq] at *; omega) (fun a b => by simp only [Bool.or_eq_true, decide_eq_true_eq]; omega) ns
  exact h.imp fun h => of_decide_eq_true h
theorem leP_anti {p q : Int × Int} (h1 : leP p q = true) (h2 : leP q p = true) : p = q := by
  unfold leP at *
  simp only [decide_eq_true_eq] at *
  exact Prod.ext (by omega) (by omega)
theorem ap_ok {ts : List Tm} (v : Val ts) : isApB ts (apL ts) = true := by
  obtain ⟨h1, h2⟩ := chain_pair v (chain_insp v)
  have hasc := chain_asc v (chain_insp v)
  have hperm : (apL ts).Perm ((inspL ts).map (·.2)) := srt_perm _
  have hlen : (apL ts).length = (inspL ts).length := by rw [hperm.length_eq, List.length_map]
  have hin : ∀ i ∈ apL ts, ∃ j : Nat, j < ts.length ∧ i = (j : Int) := fun i hi => by
    obtain ⟨p, hp, rfl⟩ := List.mem_map.mp (hperm.mem_iff.mp hi)
    obtain ⟨j, t, hj, e, _⟩ := h1 p hp
    exact ⟨j, (List.getElem?_eq_some_iff.mp hj).1, by rw [e]⟩
  have hnd : ((inspL ts).map (·.2)).Pairwise (· ≠ ·) := by
    rw [List.pairwise_map]
    have h3 : (inspL ts).Pairwise (fun p q => p.1 < q.1) := List.pairwise_map.mp hasc
    refine List.Pairwise.imp_of_mem ?_ h3
    intro p q hp hq hlt e
    obtain ⟨i, t, hi, e1, _⟩ := h1 p hp
    obtain ⟨j, u, hj, e2, _⟩ := h1 q hq
    have hij : (i : Int) = (j : Int) := by
      have := e
      rw [e1, e2] at this
      exact this
    have hij : i = j := by omega
    rw [hij, hj] at hi
    rw [e1, e2, Option.some.inj hi] at hlt
    exact absurd hlt (Int.lt_irrefl _)
  have hnd2 : (apL ts).Pairwise (· ≠ ·) := (hperm.pairwise_iff fun {a b} h => h.symm).mpr hnd
  have hpw : (apL ts).Pairwise (· < ·) := by
    have h4 := srt_pw ((inspL ts).map (·.2))
    refine (List.Pairwise.and h4 hnd2).imp fun {a b} h => ?_
    have := h.1
    have := h.2
    omega
  have hlots : someL ts (apL ts) = (inspL ts).map fun p => lotAt ts p.2 := by
    have hp2 : (someL ts (apL ts)).Perm ((inspL ts).map fun p => lotAt ts p.2) := by
      refine (List.mergeSort_perm _ _).trans ?_
      have h5 := hperm.map (lotAt ts)
      rw [List.map_map] at h5
      exact h5
    refine List.Perm.eq_of_pairwise (le := fun p q => leP p q = true) (fun a b _ _ h1 h2 => leP_anti h1 h2) (List.pairwise_mergeSort leP_trans leP_total _) ?_ hp2
    refine List.Pairwise.imp_of_mem ?_ h2
    intro q r hq hr hlt
    obtain ⟨p, hp, rfl⟩ := List.mem_map.mp hq
    obtain ⟨i, t, hi, e1, _⟩ := h1 p hp
    have hl : lotAt ts p.2 = t := by
      rw [e1]
      unfold lotAt
      rw [Int.toNat_natCast, List.getD_eq_getElem?_getD, hi]
      rfl
    have hv := val_at v (List.mem_of_getElem? hi)
    rw [hl] at hlt ⊢
    unfold leP
    exact decide_eq_true (.inl (by omega))
  unfold isApB
  simp only [Bool.and_eq_true, decide_eq_true_eq]
  refine ⟨?_, (asc_iff _).mpr hpw, hlen, ?_⟩
  · rw [allIn, List.all_eq_true]
    intro i hi
    obtain ⟨j, hj, rfl⟩ := hin i hi
    exact decide_eq_true (by omega)
  · rw [hlots, apartB_iff]
    intro k hk
    have h6 := List.pairwise_iff_getElem.mp h2 k (k + 1) (by omega) hk (by omega)
    rw [gD_at (by omega), gD_at (by omega)]
    exact h6
theorem found_set {ts : List Tm} (v : Val ts) : tks (inspL ts) = sortSet (tks (inspL ts)) := (sortSet_fix _).mpr (chain_asc v (chain_insp v))
end Kk37
set_option Elab.async false
set_option linter.all false
set_option maxRecDepth 100000
set_option maxHeartbeats 1000000
namespace Kk37
open PySem PySem.Spec PyProof.Rows L2 DL
/-! the dice in slots -/
theorem E_pick {n : Nat} {o q : OC} {r : SS} {g : SS → R D} {xs : List D} {δ0 : SS} (h : Dice n o) (hn : n < 1000000000000) (hx : xs ≠ []) (hl : xs.length < 1000) (h0 : δ0[0]? = some (some (.o q))) (hg : g δ0 = .ok (.list xs) (some (.o o) :: r)) :
    ∃ x o', x ∈ xs ∧ Dice (n + 1) o' ∧ gOfR (gCallR 2 G__law_pick (gAgS 0 (gAgD g gAg0))) δ0 = .ok x (some (.o o') :: r) := by
  obtain ⟨x, o', e, hm, hd⟩ := S_pick h hn hx hl
  refine ⟨x, o', hm, hd, ?_⟩
  simp [h0, hg, e]
theorem E_roll {n : Nat} {o q : OC} {r : SS} {g : SS → R D} {t : Int} {δ0 : SS} (h : Dice n o) (hn : n < 1000000000000) (ht : 0 < t) (ht2 : t < 1073741824) (h0 : δ0[0]? = some (some (.o q))) (hg : g δ0 = .ok (.int t) (some (.o o) :: r)) :
    ∃ x o', 0 ≤ x ∧ x < t ∧ Dice (n + 1) o' ∧ gOfR (gCallR 2 G__law_roll (gAgS 0 (gAgD g gAg0))) δ0 = .ok (.int x) (some (.o o') :: r) := by
  obtain ⟨x, o', e, h1, h2, hd⟩ := S_roll h hn ht ht2
  refine ⟨x, o', h1, h2, hd, ?_⟩
  simp [h0, hg, e]
/-! the rows -/
noncomputable abbrev gRows : SS → R Fl := gSeq (gAsg 4 (gOfR (gCallR 2 G__law_roll (gAgS 0 (gAgD (gVar 1) (gAg0)))))) (gApO 2 (gTup (gCons (gVar 4) (gCons (gOp dMin2 (gC (.int 1000)) (gOp dAdd (gVar 4) (gOfR (gCallR 2 G__law_pick (gAgS 0 (gAgD (gD (gLst (gCons (gC (.int 0)) (gCons (gC (.int 1)) (gCons (gC (.int 4)) (gCons (gOfR (gCallR 2 G__law_roll (gAgS 0 (gAgD (gVar 1) (gAg0))))) (gNil))))))) (gAg0))))))) (gNil)))))
theorem dMin2_ii (a b : Int) : dMin2 (.int a) (.int b) = some (.int (min a b)) := rfl
theorem rows_step {n : Nat} {o : OC} {ticks : Int} {ps : List Tm} {u3 u4 : Option SV} {r : SS} (h : Dice n o) (hn : n < 1000000) (ht : 0 < ticks) (ht2 : ticks ≤ 1001) (hl : ps.length < 1000) :
    ∃ o' p v, Dice (n + 3) o' ∧ validT p = true ∧ gRows (some (.o o) :: some (.d (.int ticks)) :: some (.o (.l (ps.map pD))) :: u3 :: u4 :: r)
      = .ok .nx (some (.o o') :: some (.d (.int ticks)) :: some (.o (.l ((ps ++ [p]).map pD))) :: u3 :: some (.d v) :: r) := by
  obtain ⟨f, o1, f1, f2, d1, e1⟩ := E_roll (r := some (.d (.int ticks)) :: some (.o (.l (ps.map pD))) :: u3 :: u4 :: r) (g := gVar 1) (δ0 := some (.o o) :: some (.d (.int ticks)) :: some (.o (.l (ps.map pD))) :: u3 :: u4 :: r) h (by omega) ht (by omega) rfl rfl
  obtain ⟨k, o2, k1, k2, d2, e2⟩ := E_roll (r := some (.d (.int ticks)) :: some (.o (.l (ps.map pD))) :: u3 :: some (.d (.int f)) :: r) (g := gVar 1) (δ0 := some (.o o1) :: some (.d (.int ticks)) :: some (.o (.l (ps.map pD))) :: u3 :: some (.d (.int f)) :: r) d1 (by omega) ht (by omega) rfl rfl
  have e3 : gD (gLst (gCons (gC (.int 0)) (gCons (gC (.int 1)) (gCons (gC (.int 4)) (gCons (gOfR (gCallR 2 G__law_roll (gAgS 0 (gAgD (gVar 1) (gAg0))))) (gNil)))))) (some (.o o1) :: some (.d (.int ticks)) :: some (.o (.l (ps.map pD))) :: u3 :: some (.d (.int f)) :: r)
      = .ok (.list [.int 0, .int 1, .int 4, .int k]) (some (.o o2) :: some (.d (.int ticks)) :: some (.o (.l (ps.map pD))) :: u3 :: some (.d (.int f)) :: r) := by
    rw [gD_ap, gLst_ap, gCons_ap, gC_ap, bind_ok, gCons_ap, gC_ap, bind_ok, gCons_ap, gC_ap, bind_ok, gCons_ap, e2]
    simp
  obtain ⟨x, o3, hx, d3, e4⟩ := E_pick (δ0 := some (.o o1) :: some (.d (.int ticks)) :: some (.o (.l (ps.map pD))) :: u3 :: some (.d (.int f)) :: r) d2 (by omega) (by simp) (by simp) rfl e3
  obtain ⟨y, rfl, hy⟩ : ∃ y : Int, x = .int y ∧ 0 ≤ y := by
    simp only [List.mem_cons, List.not_mem_nil, or_false] at hx
    rcases hx with rfl | rfl | rfl | rfl
    · exact ⟨0, rfl, by decide⟩
    · exact ⟨1, rfl, by decide⟩
    · exact ⟨4, rfl, by decide⟩
    · exact ⟨k, rfl, k1⟩
  refine ⟨o3, (f, min 1000 (f + y)), .int f, d3, ?_, ?_⟩
  · unfold validT
    simp only [Bool.and_eq_true, decide_eq_true_eq]
    omega
  · have hsz : (ps.map pD).length < sizeLine := by
      rw [List.length_map, sizeLine_eq]
      omega
    unfold gRows
    rw [gSeq_ap, gAsg_ap, e1]
    show gApO 2 _ (some (.o o1) :: some (.d (.int ticks)) :: some (.o (.l (ps.map pD))) :: u3 :: some (.d (.int f)) :: r) = _
    have e5 : gTup (gCons (gVar 4) (gCons (gOp dMin2 (gC (.int 1000)) (gOp dAdd (gVar 4) (gOfR (gCallR 2 G__law_pick (gAgS 0 (gAgD (gD (gLst (gCons (gC (.int 0)) (gCons (gC (.int 1)) (gCons (gC (.int 4)) (gCons (gOfR (gCallR 2 G__law_roll (gAgS 0 (gAgD (gVar 1) (gAg0))))) (gNil))))))) (gAg0))))))) (gNil)))
        (some (.o o1) :: some (.d (.int ticks)) :: some (.o (.l (ps.map pD))) :: u3 :: some (.d (.int f)) :: r)
        = .ok (pD (f, min 1000 (f + y))) (some (.o o3) :: some (.d (.int ticks)) :: some (.o (.l (ps.map pD))) :: u3 :: some (.d (.int f)) :: r) := by
      rw [gTup_ap, gCons_ap, show gVar 4 (some (.o o1) :: some (.d (.int ticks)) :: some (.o (.l (ps.map pD))) :: u3 :: some (.d (.int f)) :: r) = .ok (.int f) (some (.o o1) :: some (.d (.int ticks)) :: some (.o (.l (ps.map pD))) :: u3 :: some (.d (.int f)) :: r) from rfl, bind_ok, gCons_ap, gOp_ap, gC_ap, bind_ok, gOp_ap,
        show gVar 4 (some (.o o1) :: some (.d (.int ticks)) :: some (.o (.l (ps.map pD))) :: u3 :: some (.d (.int f)) :: r) = .ok (.int f) (some (.o o1) :: some (.d (.int ticks)) :: some (.o (.l (ps.map pD))) :: u3 :: some (.d (.int f)) :: r) from rfl, bind_ok, e4]
      simp [dMin2_ii, pD]
    rw [gApO_ap]
    show gApp 2 _ _ = _
    rw [gApp_ap, e5]
    show (if (ps.map pD).length < sizeLine then _ else _) = _
    rw [if_pos hsz]
    simp
end Kk37
set_option Elab.async false
set_option linter.all false
set_option maxRecDepth 100000
set_option maxHeartbeats 1000000
namespace Kk37
open PySem PySem.Spec PyProof.Rows L2 DL
theorem rng_at {n i : Nat} (h : i < n) : (rangeD 0 n)[i]? = some (.int (i : Nat)) := by
  unfold rangeD
  rw [List.getElem?_map, List.getElem?_range h]
  simp
theorem rng_len (n : Nat) : (rangeD 0 n).length = n := by simp [rangeD]
theorem rows_loop {n : Nat} {o : OC} {ticks : Int} {r : SS} (h : Dice n o) (hn : n < 1000) (ht : 0 < ticks) (ht2 : ticks ≤ 1001) (m : Nat) (hm : m ≤ 60) :
    ∃ (o' : OC) (ps : List Tm) (u3 u4 : Option SV), Dice (n + 3 * m) o' ∧ ps.length = m ∧ ps.all validT = true ∧ forLoop (fName 3) gRows (rangeD 0 m) (some (.o o) :: some (.d (.int ticks)) :: some (.o (.l [])) :: none :: none :: r)
      = .ok .nx (some (.o o') :: some (.d (.int ticks)) :: some (.o (.l (ps.map pD))) :: u3 :: u4 :: r) := by
  obtain ⟨fl, δ', e, h1⟩ := for_run (B := fun _ => False) (T := fun _ _ => False) (tg := fName 3) (gb := gRows) (rangeD 0 m)
    (fun j δ => ∃ (o' : OC) (ps : List Tm) (u3 u4 : Option SV), Dice (n + 3 * j) o' ∧ ps.length = j ∧ ps.all validT = true ∧ δ = (some (.o o') :: some (.d (.int ticks)) :: some (.o (.l (ps.map pD))) :: u3 :: u4 :: r : SS))
    (some (.o o) :: some (.d (.int ticks)) :: some (.o (.l [])) :: none :: none :: r) ⟨o, [], none, none, h, rfl, rfl, rfl⟩
    (fun j d δ hd ⟨o', ps, u3, u4, hd1, hd2, hd3, e⟩ => by
      subst e
      have hj : j < m := by
        have := (List.getElem?_eq_some_iff.mp hd).1
        rw [rng_len] at this
        exact this
      rw [rng_at hj] at hd
      cases hd
      obtain ⟨o2, p, v, k1, k2, k3⟩ := rows_step (u3 := some (.d (.int (j : Nat)))) (u4 := u4) (r := r) (ps := ps) hd1 (by omega) ht ht2 (by omega)
      refine ⟨_, rfl, .nx, _, k3, o2, ps ++ [p], _, _, ?_, ?_, ?_, rfl⟩
      · rw [show n + 3 * (j + 1) = n + 3 * j + 3 by omega]
        exact k1
      · simp [hd2]
      · rw [List.all_append, hd3]
        simp [k2])
  rw [rng_len] at h1
  cases fl with
  | nx =>
    rcases h1 with ⟨o', ps, u3, u4, a1, a2, a3, rfl⟩ | h1
    · exact ⟨o', ps, u3, u4, a1, a2, a3, e⟩
    · exact h1.elim
  | bk => exact h1.elim
  | ct => exact h1.elim
  | rt v => exact h1.elim
/-! values near -/
theorem dNe_bb (a b : Bool) : dNe (.bool a) (.bool b) = some (.bool (!decide (a = b))) := by cases a <;> cases b <;> rfl
noncomputable abbrev gNearT : SS → R Fl := gIf (gT (gOp dNe (gOfR (gCallKN 2 1 1 [0, 1] G_is_apart (gAgD (gVar 5) (gAg0)) (gAgD (gVar 10) (gAg0)))) (gOfR (gCallR 3 G__law_is_due (gAgD (gVar 5) (gAgD (gVar 10) (gAgD (gVar 8) (gAg0)))))))) (gRet (gC (.bool false))) (gSkip)
theorem near_test {ts : List Tm} (v : Val ts) {x0 x1 x2 x3 x4 x6 x7 x9 x11 : Option SV} {y : D} (hy : (∃ ns : List Int, ns.length ≤ 1000 ∧ y = .tuple (ns.map .int)) ∨ ((∀ xs, y ≠ .tuple xs) ∧ dIsi "tuple" y = some (.bool false))) :
    gNearT [x0, x1, x2, x3, x4, some (.d (.tuple (ts.map tD))), x6, x7, some (.d (.int (mostL ts))), x9, some (.d y), x11] = .ok .nx [x0, x1, x2, x3, x4, some (.d (.tuple (ts.map tD))), x6, x7, some (.d (.int (mostL ts))), x9, some (.d y), x11] := by
  have hm : mostL ts ≤ 60 := by
    rw [most_insp v]
    have := inspL_len ts
    have := v.len
    omega
  unfold gNearT
  rcases hy with ⟨ns, hl, rfl⟩ | ⟨h1, h2⟩
  · have a1 := S_is_apart_t v ns hl
    have a2 := S_is_due_t v ns hl _ hm
    have a3 := isAp_due ts ns
    rw [← most_insp v] at a3
    rw [a3] at a1
    simp [a1, a2, dNe_bb, pick]
  · have a1 := S_is_apart_n v y h1
    have a2 := S_is_due_n ts y (mostL ts) h2
    simp [a1, a2, dNe_bb, pick]
noncomputable abbrev gNearL : SS → R D := gD (gLst (gCons (gOp dAdd (gOp dAdd (gSl dSlT (gVar 7) (gPartN) (gPart (gVar 9))) (gTup (gCons (gOfR (gCallR 2 G__law_roll (gAgS 0 (gAgD (gOp dAdd (gUn dLen (gVar 5)) (gC (.int 1))) (gAg0))))) (gNil)))) (gSl dSlT (gVar 7) (gPart (gOp dAdd (gVar 9) (gC (.int 1)))) (gPartN))) (gCons (gUn dRevT (gVar 7)) (gCons (gSl dSlT (gVar 7) (gPartN) (gPart (gVar 9))) (gCons (gD (gUnN cList (gVar 7))) (gCons (gOp dAdd (gVar 7) (gTup (gCons (gC (.int 0)) (gNil)))) (gCons (gC .none) (gCons (gOp dAdd (gVar 7) (gVar 7)) (gNil)))))))))
noncomputable abbrev gNear : SS → R Fl := gSeq (gAsg 9 (gOfR (gCallR 2 G__law_roll (gAgS 0 (gAgD (gOp dAdd (gUn dLen (gVar 7)) (gC (.int 1))) (gAg0)))))) (gSeq (gAsg 10 (gOfR (gCallR 2 G__law_pick (gAgS 0 (gAgD gNearL (gAg0)))))) gNearT)
theorem dAdd_tt {xs ys : List D} (h : xs.length + ys.length ≤ 1000000) : dAdd (.tuple xs) (.tuple ys) = some (.tuple (xs ++ ys)) := by
  show (if xs.length + ys.length ≤ sizeLine then some (PyData.tuple (xs ++ ys)) else none) = _
  rw [if_pos (small_line h)]
theorem dSlT_ints (ns : List Int) (a b : Option Int) : dSlT (.tuple (ns.map .int)) a b = some (.tuple ((cutN ns a b).map .int)) := by
  show some (PyData.tuple (DL.cutD (ns.map PyData.int) a b)) = _
  rw [cutD_map]
theorem apL_len (ts : List Tm) : (apL ts).length ≤ ts.length := by
  have := inspL_len ts
  unfold apL srt
  rw [List.length_mergeSort, List.length_map]
  exact this
theorem near_list {ts : List Tm} (v : Val ts) {n : Nat} {o : OC} (h : Dice n o) (hn : n < 1000000) {x1 x2 x3 x4 x6 x8 x10 x11 : Option SV} (a : Int) :
    ∃ o' xs, Dice (n + 1) o' ∧ xs.length = 7 ∧ (∀ y ∈ xs, (∃ ns : List Int, ns.length ≤ 1000 ∧ y = .tuple (ns.map .int)) ∨ ((∀ xs, y ≠ .tuple xs) ∧ dIsi "tuple" y = some (.bool false))) ∧
      gNearL [some (.o o), x1, x2, x3, x4, some (.d (.tuple (ts.map tD))), x6, some (.d (.tuple ((apL ts).map .int))), x8, some (.d (.int a)), x10, x11]
      = .ok (.list xs) [some (.o o'), x1, x2, x3, x4, some (.d (.tuple (ts.map tD))), x6, some (.d (.tuple ((apL ts).map .int))), x8, some (.d (.int a)), x10, x11] := by
  have hlen := apL_len ts
  have hvl := v.len
  obtain ⟨z, o', z1, z2, d1, e1⟩ := E_roll (q := o) (t := (ts.length : Int) + 1) (r := [x1, x2, x3, x4, some (.d (.tuple (ts.map tD))), x6, some (.d (.tuple ((apL ts).map .int))), x8, some (.d (.int a)), x10, x11])
    (g := gOp dAdd (gUn dLen (gVar 5)) (gC (.int 1))) (δ0 := [some (.o o), x1, x2, x3, x4, some (.d (.tuple (ts.map tD))), x6, some (.d (.tuple ((apL ts).map .int))), x8, some (.d (.int a)), x10, x11]) h (by omega) (by omega) (by omega) rfl (by simp)
  have c1 := cutN_le (apL ts) none (some a)
  have c2 := cutN_le (apL ts) (some (a + 1)) none
  have k1 : dAdd (.tuple ((cutN (apL ts) none (some a)).map .int)) (.tuple [.int z]) = some (.tuple ((cutN (apL ts) none (some a) ++ [z]).map .int)) := by
    rw [dAdd_tt (by simp; omega)]
    simp
  have k2 : dAdd (.tuple ((cutN (apL ts) none (some a) ++ [z]).map .int)) (.tuple ((cutN (apL ts) (some (a + 1)) none).map .int)) = some (.tuple ((cutN (apL ts) none (some a) ++ [z] ++ cutN (apL ts) (some (a + 1)) none).map .int)) := by
    rw [dAdd_tt (by simp; omega), ← List.map_append]
  have k3 : dAdd (.tuple ((apL ts).map .int)) (.tuple [.int 0]) = some (.tuple ((apL ts ++ [0]).map .int)) := by
    rw [dAdd_tt (by simp; omega)]
    simp
  have k4 : dAdd (.tuple ((apL ts).map .int)) (.tuple ((apL ts).map .int)) = some (.tuple ((apL ts ++ apL ts).map .int)) := by
    rw [dAdd_tt (by simp; omega), ← List.map_append]
  have k5 : dRevT (.tuple ((apL ts).map .int)) = some (.tuple ((apL ts).reverse.map .int)) := by
    show some (PyData.tuple (((apL ts).map PyData.int).reverse)) = _
    rw [List.map_reverse]
  refine ⟨o', [.tuple ((cutN (apL ts) none (some a) ++ [z] ++ cutN (apL ts) (some (a + 1)) none).map .int), .tuple ((apL ts).reverse.map .int), .tuple ((cutN (apL ts) none (some a)).map .int), .list ((apL ts).map .int), .tuple ((apL ts ++ [0]).map .int), .none, .tuple ((apL ts ++ apL ts).map .int)], d1, rfl, ?_, ?_⟩
  · intro y hy
    simp only [List.mem_cons, List.not_mem_nil, or_false] at hy
    rcases hy with rfl | rfl | rfl | rfl | rfl | rfl | rfl
    · exact .inl ⟨_, by simp; omega, rfl⟩
    · exact .inl ⟨_, by simp; omega, rfl⟩
    · exact .inl ⟨_, by omega, rfl⟩
    · exact .inr ⟨fun _ z => (nomatch z), rfl⟩
    · exact .inl ⟨_, by simp; omega, rfl⟩
    · exact .inr ⟨fun _ z => (nomatch z), rfl⟩
    · exact .inl ⟨_, by simp; omega, rfl⟩
  · unfold gNearL
    have w1 : gOp dAdd (gOp dAdd (gSl dSlT (gVar 7) (gPartN) (gPart (gVar 9))) (gTup (gCons (gOfR (gCallR 2 G__law_roll (gAgS 0 (gAgD (gOp dAdd (gUn dLen (gVar 5)) (gC (.int 1))) (gAg0))))) (gNil)))) (gSl dSlT (gVar 7) (gPart (gOp dAdd (gVar 9) (gC (.int 1)))) (gPartN)) [some (.o o), x1, x2, x3, x4, some (.d (.tuple (ts.map tD))), x6, some (.d (.tuple ((apL ts).map .int))), x8, some (.d (.int a)), x10, x11]
        = .ok (.tuple ((cutN (apL ts) none (some a) ++ [z] ++ cutN (apL ts) (some (a + 1)) none).map .int)) [some (.o o'), x1, x2, x3, x4, some (.d (.tuple (ts.map tD))), x6, some (.d (.tuple ((apL ts).map .int))), x8, some (.d (.int a)), x10, x11] := by
      have w2 : gSl dSlT (gVar 7) (gPartN) (gPart (gVar 9)) [some (.o o), x1, x2, x3, x4, some (.d (.tuple (ts.map tD))), x6, some (.d (.tuple ((apL ts).map .int))), x8, some (.d (.int a)), x10, x11] = .ok (.tuple ((cutN (apL ts) none (some a)).map .int)) [some (.o o), x1, x2, x3, x4, some (.d (.tuple (ts.map tD))), x6, some (.d (.tuple ((apL ts).map .int))), x8, some (.d (.int a)), x10, x11] := by
        simp [dSlT_ints]
      have w3 : gTup (gCons (gOfR (gCallR 2 G__law_roll (gAgS 0 (gAgD (gOp dAdd (gUn dLen (gVar 5)) (gC (.int 1))) (gAg0))))) (gNil)) [some (.o o), x1, x2, x3, x4, some (.d (.tuple (ts.map tD))), x6, some (.d (.tuple ((apL ts).map .int))), x8, some (.d (.int a)), x10, x11] = .ok (.tuple [.int z]) [some (.o o'), x1, x2, x3, x4, some (.d (.tuple (ts.map tD))), x6, some (.d (.tuple ((apL ts).map .int))), x8, some (.d (.int a)), x10, x11] := by
        rw [gTup_ap, gCons_ap, e1]
        simp
      have w4 : gSl dSlT (gVar 7) (gPart (gOp dAdd (gVar 9) (gC (.int 1)))) (gPartN) [some (.o o'), x1, x2, x3, x4, some (.d (.tuple (ts.map tD))), x6, some (.d (.tuple ((apL ts).map .int))), x8, some (.d (.int a)), x10, x11] = .ok (.tuple ((cutN (apL ts) (some (a + 1)) none).map .int)) [some (.o o'), x1, x2, x3, x4, some (.d (.tuple (ts.map tD))), x6, some (.d (.tuple ((apL ts).map .int))), x8, some (.d (.int a)), x10, x11] := by
        simp [dSlT_ints]
      rw [gOp_ap, gOp_ap, w2, bind_ok, w3, bind_ok, k1, opt_some, bind_ok, w4, bind_ok, k2, opt_some]
    rw [gD_ap, gLst_ap, gCons_ap, w1]
    simp [k3, k4, k5, dSlT_ints]
theorem near_step {ts : List Tm} (v : Val ts) {n : Nat} {o : OC} (h : Dice n o) (hn : n < 100000) {x1 x2 x3 x4 x6 x9 x10 x11 : Option SV} :
    ∃ o' y9 y10, Dice (n + 3) o' ∧ gNear [some (.o o), x1, x2, x3, x4, some (.d (.tuple (ts.map tD))), x6, some (.d (.tuple ((apL ts).map .int))), some (.d (.int (mostL ts))), x9, x10, x11]
      = .ok .nx [some (.o o'), x1, x2, x3, x4, some (.d (.tuple (ts.map tD))), x6, some (.d (.tuple ((apL ts).map .int))), some (.d (.int (mostL ts))), y9, y10, x11] := by
  have hlen := apL_len ts
  have hvl := v.len
  obtain ⟨a, o1, a1, a2, d1, e1⟩ := E_roll (q := o) (t := ((apL ts).length : Int) + 1) (r := [x1, x2, x3, x4, some (.d (.tuple (ts.map tD))), x6, some (.d (.tuple ((apL ts).map .int))), some (.d (.int (mostL ts))), x9, x10, x11])
    (g := gOp dAdd (gUn dLen (gVar 7)) (gC (.int 1))) (δ0 := [some (.o o), x1, x2, x3, x4, some (.d (.tuple (ts.map tD))), x6, some (.d (.tuple ((apL ts).map .int))), some (.d (.int (mostL ts))), x9, x10, x11]) h (by omega) (by omega) (by omega) rfl (by simp)
  obtain ⟨o2, xs, d2, l2, hall, e2⟩ := near_list v d1 (by omega) (x1 := x1) (x2 := x2) (x3 := x3) (x4 := x4) (x6 := x6) (x8 := some (.d (.int (mostL ts)))) (x10 := x10) (x11 := x11) a
  obtain ⟨y, o3, hy, d3, e3⟩ := E_pick (q := o1) (δ0 := [some (.o o1), x1, x2, x3, x4, some (.d (.tuple (ts.map tD))), x6, some (.d (.tuple ((apL ts).map .int))), some (.d (.int (mostL ts))), some (.d (.int a)), x10, x11]) d2 (by omega) (fun z => by rw [z] at l2; cases l2) (by omega) rfl e2
  refine ⟨o3, some (.d (.int a)), some (.d y), d3, ?_⟩
  unfold gNear
  rw [gSeq_ap, gAsg_ap, e1]
  show gSeq _ _ [some (.o o1), x1, x2, x3, x4, some (.d (.tuple (ts.map tD))), x6, some (.d (.tuple ((apL ts).map .int))), some (.d (.int (mostL ts))), some (.d (.int a)), x10, x11] = _
  rw [gSeq_ap, gAsg_ap, e3]
  exact near_test v (hall y hy)
end Kk37
set_option Elab.async false
set_option linter.all false
set_option maxRecDepth 100000
set_option maxHeartbeats 1000000
namespace Kk37
open PySem PySem.Spec PyProof.Rows L2 DL
theorem near_loop {ts : List Tm} (v : Val ts) {n : Nat} {o : OC} (h : Dice n o) (hn : n < 1000) {x1 x2 x3 x4 x6 x9 x10 x11 : Option SV} :
    ∃ (o' : OC) (y3 y9 y10 : Option SV), Dice (n + 18) o' ∧ forLoop (fName 3) gNear (rangeD 0 6) [some (.o o), x1, x2, x3, x4, some (.d (.tuple (ts.map tD))), x6, some (.d (.tuple ((apL ts).map .int))), some (.d (.int (mostL ts))), x9, x10, x11]
      = .ok .nx [some (.o o'), x1, x2, y3, x4, some (.d (.tuple (ts.map tD))), x6, some (.d (.tuple ((apL ts).map .int))), some (.d (.int (mostL ts))), y9, y10, x11] := by
  obtain ⟨fl, δ', e, h1⟩ := for_run (B := fun _ => False) (T := fun _ _ => False) (tg := fName 3) (gb := gNear) (rangeD 0 6)
    (fun j δ => ∃ (o' : OC) (y3 y9 y10 : Option SV), Dice (n + 3 * j) o' ∧ δ = ([some (.o o'), x1, x2, y3, x4, some (.d (.tuple (ts.map tD))), x6, some (.d (.tuple ((apL ts).map .int))), some (.d (.int (mostL ts))), y9, y10, x11] : SS))
    [some (.o o), x1, x2, x3, x4, some (.d (.tuple (ts.map tD))), x6, some (.d (.tuple ((apL ts).map .int))), some (.d (.int (mostL ts))), x9, x10, x11] ⟨o, x3, x9, x10, h, rfl⟩
    (fun j d δ hd ⟨o', y3, y9, y10, hd1, e⟩ => by
      subst e
      have hj : j < 6 := by
        have := (List.getElem?_eq_some_iff.mp hd).1
        rw [rng_len] at this
        exact this
      rw [rng_at hj] at hd
      cases hd
      obtain ⟨o2, z9, z10, k1, k3⟩ := near_step v (x1 := x1) (x2 := x2) (x3 := some (.d (.int (j : Nat)))) (x4 := x4) (x6 := x6) (x9 := y9) (x10 := y10) (x11 := x11) hd1 (by omega)
      refine ⟨_, rfl, .nx, _, k3, o2, _, _, _, ?_, rfl⟩
      rw [show n + 3 * (j + 1) = n + 3 * j + 3 by omega]
      exact k1)
  rw [rng_len] at h1
  cases fl with
  | nx =>
    rcases h1 with ⟨o', y3, y9, y10, a1, rfl⟩ | h1
    · exact ⟨o', y3, y9, y10, a1, e⟩
    · exact h1.elim
  | bk => exact h1.elim
  | ct => exact h1.elim
  | rt v => exact h1.elim
/-! values that are no lots -/
theorem at_most_n {x : D} (h : tupMost 60 x = false) : G_are_times [.d x] = .ok (.d (.bool false)) [none] := by
  simp [G_are_times, g_are_times, S_are_at_most, h]
theorem one_n {x : D} (h : G_is_time [.d x] = .ok (.d (.bool false)) [none]) : G_are_times [.d (.tuple [x])] = .ok (.d (.bool false)) [none] := by
  have z : gLc [1] (gItT (gVar 0)) (fName 1) gYes (gOfR (gCallR 1 G_is_time (gAgD (gVar 1) gAg0))) [some (.d (.tuple [x])), none] = .ok (.l [.bool false]) [some (.d (.tuple [x])), none] :=
    gLc_map (fun _ : Unit => x) (fun _ => .bool false) [()] (by simp) (small_line (by decide)) fun t _ => by simp [lcOne, h]
  have hA : dAll (.list [.bool false]) = some (.bool false) := rfl
  simp [G_are_times, g_are_times, S_are_at_most, tupMost, z, hA]
theorem X_is_apart {x y : D} (h : G_are_times [.d x] = .ok (.d (.bool false)) [none]) : G_is_apart [.d x, .d y] = .ex "BadArgument" "name" (.str "times") [none, none] := by
  simp [G_is_apart, g_is_apart, h, S_demand_f]
noncomputable abbrev gBadL : SS → R D := gD (gLst (gCons (gC .none) (gCons (gD (gUnN cList (gVar 5))) (gCons (gTup (gCons (gTup (gCons (gC (.int 1)) (gCons (gC (.int 0)) (gNil)))) (gNil))) (gCons (gTup (gCons (gTup (gCons (gC (.int 0)) (gCons (gC (.int 1001)) (gNil)))) (gNil))) (gCons (gTup (gCons (gTup (gCons (gC (.int 0)) (gCons (gC (.int 1)) (gCons (gC (.int 1)) (gNil))))) (gNil))) (gCons (gOp dRepT (gTup (gCons (gTup (gCons (gC (.int 0)) (gCons (gC (.int 1)) (gNil)))) (gNil))) (gC (.int 61))) (gCons (gTup (gCons (gTup (gCons (gC (.bool true)) (gCons (gC (.int 1)) (gNil)))) (gNil))) (gNil)))))))))
def rep61 : List D := repD 61 [.tuple [.int 0, .int 1]]
theorem rep61_e : dRepT (.tuple [.tuple [.int 0, .int 1]]) (.int 61) = some (.tuple rep61) := by
  unfold dRepT
  dsimp only
  rw [if_pos ⟨by simp, by decide, by decide, by decide⟩]
  rfl
theorem rep61_l : rep61.length = 61 := rfl
theorem bad_list {ts : List Tm} {x0 x1 x2 x3 x4 x6 x7 x8 x9 x10 x11 : Option SV} :
    ∃ xs, xs.length = 7 ∧ (∀ y ∈ xs, G_are_times [.d y] = .ok (.d (.bool false)) [none]) ∧ gBadL [x0, x1, x2, x3, x4, some (.d (.tuple (ts.map tD))), x6, x7, x8, x9, x10, x11]
      = .ok (.list xs) [x0, x1, x2, x3, x4, some (.d (.tuple (ts.map tD))), x6, x7, x8, x9, x10, x11] := by
  refine ⟨[.none, .list (ts.map tD), .tuple [.tuple [.int 1, .int 0]], .tuple [.tuple [.int 0, .int 1001]], .tuple [.tuple [.int 0, .int 1, .int 1]], .tuple rep61, .tuple [.tuple [.bool true, .int 1]]], rfl, ?_, ?_⟩
  · intro y hy
    simp only [List.mem_cons, List.not_mem_nil, or_false] at hy
    rcases hy with rfl | rfl | rfl | rfl | rfl | rfl | rfl
    · exact at_most_n rfl
    · exact at_most_n rfl
    · have h := S_are_times [(1, 0)] (by decide)
      exact h
    · have h := S_are_times [(0, 1001)] (by decide)
      exact h
    · refine one_n ?_
      simp [G_is_time, g_is_time, S_is_tuple_of, tupN]
    · exact at_most_n (by simp [tupMost, rep61_l])
    · refine one_n ?_
      simp [G_is_time, g_is_time, S_is_tuple_of, tupN, S_is_in, inB', dIx, atI, ixN]
  · unfold gBadL
    simp [rep61_e]
theorem plain_s (a b c : Str) : eqB (.list [.str a, .str b, .str c]) (.list [.str a, .str b, .str c]) = true := by
  simp [eqB, PyData.plain, PyData.plainAll, PyData.depth, PyData.depthAll]
theorem dEq_sss (a : Str) : dEq (.list [.str a, .str a, .str a]) (.list [.str a, .str a, .str a]) = some (.bool true) := by
  show (if eqB _ _ = true then some (PyData.bool (PyData.eqv _ _)) else none) = _
  rw [if_pos (plain_s a a a)]
  simp [PyData.eqv, PyData.eqvAll]
theorem cRep_3 (a : Str) : cRep (.list [.str a]) (.int 3) = some (.l [.str a, .str a, .str a]) := by
  unfold cRep
  dsimp only
  rw [if_pos ⟨by decide, by decide, small_line (by simp)⟩]
  rfl
noncomputable abbrev gEnd : SS → R Fl := gRet (gOp dEq (gD (gLst (gCons (gRef "BadArgument" "name" (gOfR (gCallR 1 G_inspections (gAgD (gVar 11) (gAg0))))) (gCons (gRef "BadArgument" "name" (gOfR (gCallR 1 G_apart (gAgD (gVar 11) (gAg0))))) (gCons (gRef "BadArgument" "name" (gOfR (gCallR 2 G_is_apart (gAgD (gVar 11) (gAgD (gTup (gNil)) (gAg0)))))) (gNil)))))) (gD (gOpN cRep (gD (gLst (gCons (gC (.str "times")) (gNil)))) (gC (.int 3)))))
theorem end_ok {y : D} (h : G_are_times [.d y] = .ok (.d (.bool false)) [none]) {x0 x1 x2 x3 x4 x5 x6 x7 x8 x9 x10 : Option SV} :
    gEnd [x0, x1, x2, x3, x4, x5, x6, x7, x8, x9, x10, some (.d y)] = .ok (.rt (.d (.bool true))) [x0, x1, x2, x3, x4, x5, x6, x7, x8, x9, x10, some (.d y)] := by
  unfold gEnd
  have h1 := X_inspections h
  have h2 := X_apart h
  have h3 := X_is_apart (y := .tuple []) h
  simp [h1, h2, h3, cRep_3, dEq_sss]
/-! the law's turn -/
noncomputable abbrev gTest1 : SS → R Fl := gIf (gOr (gT (gOp dNe (gUn dLen (gVar 6)) (gVar 8))) (gOr (gT (gOp dNe (gD (gUnN cList (gVar 6))) (gD (gUnN cSortSet (gVar 6))))) (gOr (gNot (gT (gOfR (gCallR 2 G__law_as_late (gAgD (gVar 5) (gAgD (gVar 6) (gAg0))))))) (gT (gOp dNe (gOfR (gCallKN 1 0 1 [0] G_inspections gAg0 (gAgD (gVar 5) (gAg0)))) (gVar 6)))))) (gRet (gC (.bool false))) (gSkip)
noncomputable abbrev gTest2 : SS → R Fl := gIf (gOr (gNot (gT (gOfR (gCallR 3 G__law_is_due (gAgD (gVar 5) (gAgD (gVar 7) (gAgD (gVar 8) (gAg0)))))))) (gT (gOp dNotB (gOfR (gCallR 2 G_is_apart (gAgD (gVar 5) (gAgD (gVar 7) (gAg0))))) (gC (.bool true))))) (gRet (gC (.bool false))) (gSkip)
theorem test1_ok {ts : List Tm} (v : Val ts) {x0 x1 x2 x3 x4 x7 x9 x10 x11 : Option SV} :
    gTest1 [x0, x1, x2, x3, x4, some (.d (.tuple (ts.map tD))), some (.d (.tuple ((tks (inspL ts)).map .int))), x7, some (.d (.int (mostL ts))), x9, x10, x11]
     = .ok .nx [x0, x1, x2, x3, x4, some (.d (.tuple (ts.map tD))), some (.d (.tuple ((tks (inspL ts)).map .int))), x7, some (.d (.int (mostL ts))), x9, x10, x11] := by
  have h1 := S_as_late v _ (late_insp v)
  have h2 := S_inspections v
  rw [show ((inspL ts).map fun p => PyData.int p.1) = (tks (inspL ts)).map .int by unfold tks; rw [List.map_map]; rfl] at h2
  have h3 := dNe_lists (tks (inspL ts)) (sortSet (tks (inspL ts)))
  rw [decide_eq_true (found_set v)] at h3
  have h4 := dNe_tups (tks (inspL ts)) (tks (inspL ts))
  rw [decide_eq_true rfl] at h4
  have hl : (tks (inspL ts)).length ≤ 60 := by
    have := inspL_len ts
    have := v.len
    simp [tks]
    omega
  have h5 := cSortSet_ints (tks (inspL ts)) (by omega)
  have h6 : ((tks (inspL ts)).length : Int) = mostL ts := by
    rw [most_insp v]
    simp [tks]
  unfold gTest1
  generalize tks (inspL ts) = ks at *
  simp [h1, h2, h3, h4, h5, h6, pick]
theorem test2_ok {ts : List Tm} (v : Val ts) {x0 x1 x2 x3 x4 x6 x9 x10 x11 : Option SV} :
    gTest2 [x0, x1, x2, x3, x4, some (.d (.tuple (ts.map tD))), x6, some (.d (.tuple ((apL ts).map .int))), some (.d (.int (mostL ts))), x9, x10, x11]
     = .ok .nx [x0, x1, x2, x3, x4, some (.d (.tuple (ts.map tD))), x6, some (.d (.tuple ((apL ts).map .int))), some (.d (.int (mostL ts))), x9, x10, x11] := by
  have hl := apL_len ts
  have hvl := v.len
  have hm : mostL ts ≤ 60 := by
    rw [most_insp v]
    have := inspL_len ts
    omega
  have a1 := S_is_apart_t v (apL ts) (by omega)
  have a2 := S_is_due_t v (apL ts) (by omega) _ hm
  have a3 := isAp_due ts (apL ts)
  rw [← most_insp v, ap_ok v] at a3
  rw [ap_ok v] at a1
  rw [← a3] at a2
  have a4 : dNotB (.bool true) (.bool true) = some (.bool false) := rfl
  unfold gTest2
  simp [a1, a2, a4]
end Kk37
set_option Elab.async false
set_option linter.all false
set_option maxRecDepth 100000
set_option maxHeartbeats 0
namespace Kk37
open PySem PySem.Spec PyProof.Rows L2 DL
/-! ### the head -/
def D_is_integer : He.DefD := ⟨("is_integer", none), "is_integer", "is_integer", defArgs s_is_integer, defBody s_is_integer, defScope s_is_integer, [], []⟩
def D_is_in : He.DefD := ⟨("is_in", none), "is_in", "is_in", defArgs s_is_in, defBody s_is_in, defScope s_is_in, [], []⟩
def D_is_tuple_of : He.DefD := ⟨("is_tuple_of", none), "is_tuple_of", "is_tuple_of", defArgs s_is_tuple_of, defBody s_is_tuple_of, defScope s_is_tuple_of, [], []⟩
def D_are_at_most : He.DefD := ⟨("are_at_most", none), "are_at_most", "are_at_most", defArgs s_are_at_most, defBody s_are_at_most, defScope s_are_at_most, [], []⟩
def D_is_ascending : He.DefD := ⟨("is_ascending", none), "is_ascending", "is_ascending", defArgs s_is_ascending, defBody s_is_ascending, defScope s_is_ascending, [], []⟩
def D_demand : He.DefD := ⟨("demand", none), "demand", "demand", defArgs s_demand, defBody s_demand, defScope s_demand, [], []⟩
def D_are_indexes : He.DefD := ⟨("are_indexes", none), "are_indexes", "are_indexes", defArgs s_are_indexes, defBody s_are_indexes, defScope s_are_indexes, [], []⟩
def D_is_time : He.DefD := ⟨("is_time", none), "is_time", "is_time", defArgs s_is_time, defBody s_is_time, defScope s_is_time, [], []⟩
def D_are_times : He.DefD := ⟨("are_times", none), "are_times", "are_times", defArgs s_are_times, defBody s_are_times, defScope s_are_times, [], []⟩
def D_inspect : He.DefD := ⟨("inspect", none), "inspect", "inspect", defArgs s_inspect, defBody s_inspect, defScope s_inspect, [], []⟩
def D_inspections : He.DefD := ⟨("inspections", none), "inspections", "inspections", defArgs s_inspections, defBody s_inspections, defScope s_inspections, [], []⟩
def D_apart : He.DefD := ⟨("apart", none), "apart", "apart", defArgs s_apart, defBody s_apart, defScope s_apart, [], []⟩
def D_is_apart : He.DefD := ⟨("is_apart", none), "is_apart", "is_apart", defArgs s_is_apart, defBody s_is_apart, defScope s_is_apart, [], []⟩
def D__law_dice : He.DefD := ⟨("_law_dice", none), "_law_dice", "_law_dice", defArgs s__law_dice, defBody s__law_dice, defScope s__law_dice, [], []⟩
def D__law_roll : He.DefD := ⟨("_law_roll", none), "_law_roll", "_law_roll", defArgs s__law_roll, defBody s__law_roll, defScope s__law_roll, [], []⟩
def D__law_pick : He.DefD := ⟨("_law_pick", none), "_law_pick", "_law_pick", defArgs s__law_pick, defBody s__law_pick, defScope s__law_pick, [], []⟩
def D__law_refused : He.DefD := ⟨("_law_refused", none), "_law_refused", "_law_refused", defArgs s__law_refused, defBody s__law_refused, defScope s__law_refused, [], []⟩
def D__law_most_apart : He.DefD := ⟨("_law_most_apart", none), "_law_most_apart", "_law_most_apart", defArgs s__law_most_apart, defBody s__law_most_apart, defScope s__law_most_apart, [], []⟩
def D__law_is_due : He.DefD := ⟨("_law_is_due", none), "_law_is_due", "_law_is_due", defArgs s__law_is_due, defBody s__law_is_due, defScope s__law_is_due, [], []⟩
def D__law_as_late : He.DefD := ⟨("_law_as_late", none), "_law_as_late", "_law_as_late", defArgs s__law_as_late, defBody s__law_as_late, defScope s__law_as_late, [], []⟩
def D__law_right : He.DefD := ⟨("_law_right", none), "_law_right", "_law_right", defArgs s__law_right, defBody s__law_right, defScope s__law_right, [], []⟩
def D_law : He.DefD := ⟨("law", none), "law", "law", defArgs s_law, defBody s_law, defScope s_law, [], []⟩
def fn : List He.DefD := [D_is_integer, D_is_in, D_is_tuple_of, D_are_at_most, D_is_ascending, D_demand, D_are_indexes, D_is_time, D_are_times, D_inspect, D_inspections, D_apart, D_is_apart, D__law_dice, D__law_roll, D__law_pick, D__law_refused, D__law_most_apart, D__law_is_due, D__law_as_late, D__law_right, D_law]
def fa : List He.Fa := [.glo "is_integer", .glo "is_in", .glo "is_tuple_of", .glo "are_at_most", .glo "is_ascending", .glo "demand", .glo "are_indexes", .glo "is_time", .glo "are_times", .glo "inspect", .glo "inspections", .glo "apart", .glo "is_apart", .glo "_law_dice", .glo "_law_roll", .glo "_law_pick", .glo "_law_refused", .glo "_law_most_apart", .glo "_law_is_due", .glo "_law_as_late", .glo "_law_right", .glo "law", .free "abs", .free "all", .free "bool", .free "enumerate", .free "int", .free "isinstance", .free "len", .free "list", .free "max", .free "min", .free "range", .free "set", .free "sorted", .free "tuple", .free "zip", .int "MOST_TIME" (1000), .int "MOST_TIMES" (60), .glo "BadArgument", .free "super"]
def clsBody : Stmt → List Stmt
  | .ClassDef _ _ _ b _ _ _ _ _ _ _ => b
  | _ => []
abbrev sI : Stmt := (clsBody (top 2)).getD 0 (.Pass ⟨0, 0, 0, 0⟩)
def iD : IniD := ⟨"BadArgument", "__init__", "BadArgument.__init__", defArgs sI, defBody sI, defScope sI⟩
def tf : List He.Defn := [("_law_right", none)]
def ex (K : Frg) : Bool := errB PySem.Challenge.pw_tonnewise_k37_whole_inspections.main.file K "BadArgument" "name"
abbrev hk : PySem.W.Hook := hookY 4 fa fn tf ex [iD]
def ob (s : PySem.W.SharedT) : AlY := obsY 4 fa fn tf ex [iD] (HandSHeadRun.getT s)
theorem ob_eq (s : PySem.W.SharedT) : ob s = hk.obs s.abs := obsY_eq (HandSHeadRun.getT_eq s)
abbrev R : PySem.W.OpenRow := PySem.W.OpenLaw.row PySem.Challenge.rw_tonnewise_k37_whole_inspections
def loose : List Str := (["TonneError", "BadArgument", "is_integer", "is_in", "is_tuple_of", "are_at_most", "is_ascending", "demand", "are_indexes", "MOST_TIME", "MOST_TIMES", "is_time", "are_times", "inspect", "inspections", "apart", "is_apart", "_law_dice", "_law_roll", "_law_pick", "_law_refused", "_law_most_apart", "_law_is_due", "_law_as_late", "_law_right"] : List Str)
theorem run (w : World) : HandSHeadRun.RunEq R (PySem.W.view R.prog [29]) hk ob 3000 loose w := by
  intro os
  kernel_rfl
theorem facts {K : Frg} {h : Heap} {mg : Str → Option Value} {w : World} (X : K.In h) (G : h.Ns mainGlobals mg) (c : He.SaysX fa fn [] tf ex w h K) (ci : [iD].map (fun d => iniObs K d.cls) = [iD].map IniD.val) (base : Heap) (hT : ∀ p ∈ tf.map (He.cT K), LamX.TabB base mg p.1 p.2) : Ft PySem.Challenge.pw_tonnewise_k37_whole_inspections K mg base where
  n_abs := He.free_ok X G (c.t.d.fact 22 (f := .free "abs") rfl)
  n_all := He.free_ok X G (c.t.d.fact 23 (f := .free "all") rfl)
  n_bool := He.free_ok X G (c.t.d.fact 24 (f := .free "bool") rfl)
  n_enumerate := He.free_ok X G (c.t.d.fact 25 (f := .free "enumerate") rfl)
  n_int := He.free_ok X G (c.t.d.fact 26 (f := .free "int") rfl)
  n_isinstance := He.free_ok X G (c.t.d.fact 27 (f := .free "isinstance") rfl)
  n_len := He.free_ok X G (c.t.d.fact 28 (f := .free "len") rfl)
  n_list := He.free_ok X G (c.t.d.fact 29 (f := .free "list") rfl)
  n_max := He.free_ok X G (c.t.d.fact 30 (f := .free "max") rfl)
  n_min := He.free_ok X G (c.t.d.fact 31 (f := .free "min") rfl)
  n_range := He.free_ok X G (c.t.d.fact 32 (f := .free "range") rfl)
  n_set := He.free_ok X G (c.t.d.fact 33 (f := .free "set") rfl)
  n_sorted := He.free_ok X G (c.t.d.fact 34 (f := .free "sorted") rfl)
  n_tuple := He.free_ok X G (c.t.d.fact 35 (f := .free "tuple") rfl)
  n_zip := He.free_ok X G (c.t.d.fact 36 (f := .free "zip") rfl)
  c_MOST_TIME := He.int_ok X G (c.t.d.fact 37 (f := .int "MOST_TIME" (1000)) rfl)
  c_MOST_TIMES := He.int_ok X G (c.t.d.fact 38 (f := .int "MOST_TIMES" (60)) rfl)
  d_is_integer := He.glo_ok X G (c.t.d.fact 0 (f := .glo "is_integer") rfl)
  F_is_integer := c.t.d.def_ 0 (d := D_is_integer) rfl
  d_is_in := He.glo_ok X G (c.t.d.fact 1 (f := .glo "is_in") rfl)
  F_is_in := c.t.d.def_ 1 (d := D_is_in) rfl
  d_is_tuple_of := He.glo_ok X G (c.t.d.fact 2 (f := .glo "is_tuple_of") rfl)
  F_is_tuple_of := c.t.d.def_ 2 (d := D_is_tuple_of) rfl
  d_are_at_most := He.glo_ok X G (c.t.d.fact 3 (f := .glo "are_at_most") rfl)
  F_are_at_most := c.t.d.def_ 3 (d := D_are_at_most) rfl
  d_is_ascending := He.glo_ok X G (c.t.d.fact 4 (f := .glo "is_ascending") rfl)
  F_is_ascending := c.t.d.def_ 4 (d := D_is_ascending) rfl
  d_demand := He.glo_ok X G (c.t.d.fact 5 (f := .glo "demand") rfl)
  F_demand := c.t.d.def_ 5 (d := D_demand) rfl
  d_are_indexes := He.glo_ok X G (c.t.d.fact 6 (f := .glo "are_indexes") rfl)
  F_are_indexes := c.t.d.def_ 6 (d := D_are_indexes) rfl
  d_is_time := He.glo_ok X G (c.t.d.fact 7 (f := .glo "is_time") rfl)
  F_is_time := c.t.d.def_ 7 (d := D_is_time) rfl
  d_are_times := He.glo_ok X G (c.t.d.fact 8 (f := .glo "are_times") rfl)
  F_are_times := c.t.d.def_ 8 (d := D_are_times) rfl
  d_inspect := He.glo_ok X G (c.t.d.fact 9 (f := .glo "inspect") rfl)
  F_inspect := c.t.d.def_ 9 (d := D_inspect) rfl
  d_inspections := He.glo_ok X G (c.t.d.fact 10 (f := .glo "inspections") rfl)
  F_inspections := c.t.d.def_ 10 (d := D_inspections) rfl
  d_apart := He.glo_ok X G (c.t.d.fact 11 (f := .glo "apart") rfl)
  F_apart := c.t.d.def_ 11 (d := D_apart) rfl
  d_is_apart := He.glo_ok X G (c.t.d.fact 12 (f := .glo "is_apart") rfl)
  F_is_apart := c.t.d.def_ 12 (d := D_is_apart) rfl
  d__law_dice := He.glo_ok X G (c.t.d.fact 13 (f := .glo "_law_dice") rfl)
  F__law_dice := c.t.d.def_ 13 (d := D__law_dice) rfl
  d__law_roll := He.glo_ok X G (c.t.d.fact 14 (f := .glo "_law_roll") rfl)
  F__law_roll := c.t.d.def_ 14 (d := D__law_roll) rfl
  d__law_pick := He.glo_ok X G (c.t.d.fact 15 (f := .glo "_law_pick") rfl)
  F__law_pick := c.t.d.def_ 15 (d := D__law_pick) rfl
  d__law_refused := He.glo_ok X G (c.t.d.fact 16 (f := .glo "_law_refused") rfl)
  F__law_refused := c.t.d.def_ 16 (d := D__law_refused) rfl
  d__law_most_apart := He.glo_ok X G (c.t.d.fact 17 (f := .glo "_law_most_apart") rfl)
  F__law_most_apart := c.t.d.def_ 17 (d := D__law_most_apart) rfl
  d__law_is_due := He.glo_ok X G (c.t.d.fact 18 (f := .glo "_law_is_due") rfl)
  F__law_is_due := c.t.d.def_ 18 (d := D__law_is_due) rfl
  d__law_as_late := He.glo_ok X G (c.t.d.fact 19 (f := .glo "_law_as_late") rfl)
  F__law_as_late := c.t.d.def_ 19 (d := D__law_as_late) rfl
  d__law_right := He.glo_ok X G (c.t.d.fact 20 (f := .glo "_law_right") rfl)
  F__law_right := c.t.d.def_ 20 (d := D__law_right) rfl
  d_law := He.glo_ok X G (c.t.d.fact 21 (f := .glo "law") rfl)
  F_law := c.t.d.def_ 21 (d := D_law) rfl
  bad := errC_of (P := PySem.Challenge.pw_tonnewise_k37_whole_inspections) (d := iD) c.more rfl (List.head_eq_of_cons_eq ci) (He.glo_ok X G (c.t.d.fact 39 (f := .glo "BadArgument") rfl)) (He.free_ok X G (c.t.d.fact 40 (f := .free "super") rfl)) (by kernel_rfl) rfl rfl rfl rfl rfl rfl (by decide +kernel) (by decide +kernel) (by decide +kernel) (by decide +kernel) (by decide +kernel) (fun _ _ _ _ => ⟨rfl, rfl, rfl, _, rfl⟩) (by decide) (by decide) (by decide) (fun _ _ _ _ _ _ _ us hl => match us, hl with | [_, _], _ => rfl)
  t__law_right := hT (He.cT K ("_law_right", none)) (by simp [tf])
theorem holds_of (hG : ∀ ns : List Int, ns.length ≤ 63 → (∀ z ∈ ns, Builtin.Int.intBits z ≤ 1048576) → ∃ as, G_law [.q ns] = .ok (.d (.bool true)) as) : PySem.Challenge.rw_tonnewise_k37_whole_inspections.Holds := by
  w_on; o_law
  refine HandSHeadRun.head_any (r := PySem.W.OpenLaw.row PySem.Challenge.rw_tonnewise_k37_whole_inspections) (q := PySem.W.view (PySem.W.OpenLaw.row PySem.Challenge.rw_tonnewise_k37_whole_inspections).prog [29]) (H := hk) (ob := ob) (M := 3000) (loose := loose) (d := HandSHeadRun.topDef (PySem.W.OpenLaw.row PySem.Challenge.rw_tonnewise_k37_whole_inspections).prog 29) (kwd := []) ob_eq
    (by kernel_rfl) (fun s => by kernel_rfl) run (by kernel_rfl) (by kernel_rfl) (by kernel_rfl) (by rfl) (by first | assumption | decide +kernel) (by decide +kernel) ⟨rfl, rfl, rfl, rfl, rfl, by decide +kernel⟩ ?hw ?hc
  case hw => w_witness2
  case hc =>
    refine LamX.walk_ofTsE (l := PySem.Challenge.rw_tonnewise_k37_whole_inspections) (n := 63) (k := 9) (x := "script") (CX := fun w => L2.CX PySem.Challenge.pw_tonnewise_k37_whole_inspections w) rfl (by decide) (by kernel_rfl) ⟨rfl, by decide, by decide⟩ ?F (fun w H s e s' z => by
      obtain ⟨_, _, _, _, _, _, _, _, _, _, _, _, z⟩ := z
      exact z.elim)
    intro w mg fa h Y G hmg0
    obtain ⟨K, KX, c, ci⟩ := Y
    have hmg : mg ("law" : PySem.Str) = some (.ref fa) := by
      have e : (HandSHeadRun.topDef (PySem.W.OpenLaw.row PySem.Challenge.rw_tonnewise_k37_whole_inspections).prog 29).name = ("law" : PySem.Str) := by kernel_rfl
      rw [← e]
      exact hmg0
    have hlaw := He.glo_ok KX G (c.t.d.fact 21 (f := .glo "law") rfl)
    obtain ⟨fd, Fn⟩ := c.t.d.def_ 21 (d := D_law) rfl
    have efa : fa = He.fAd K ("law", none) := by
      have z := hmg.symm.trans hlaw
      cases z
      rfl
    refine ⟨K, KX, fd, tf.map (He.cT K), spD K mg (TT K) 1 G_law, fun p hp => ?_, fun p hp => ?_, fun p hp => ?_, fun s u => ?_, fun H a ns hl hb hT hS => ?_, fun base hb1 hb2 hT => ?_⟩
    · obtain ⟨q, hq, rfl⟩ := List.mem_map.mp hp
      exact c.empty q hq
    · obtain ⟨q, hq, rfl⟩ := List.mem_map.mp hp
      exact c.out q hq
    · obtain ⟨q, hq, rfl⟩ := List.mem_map.mp hp
      exact PySem.W.codeHd_of_K KX (c.hd q hq)
    · exact FunD.bindsA (ps := ["script"]) Fn (fun _ _ _ _ _ _ us hl => match us, hl with | [_], _ => rfl) s [u] rfl
    · refine law_sp hS (fun p hp => ?_) (hG ns hl hb)
      have hp' : p ∈ [((He.cT K ("_law_right", none)).2, ("_law_right.<locals>.<lambda>" : Str))] := hp
      simp only [List.mem_cons, List.not_mem_nil, or_false] at hp'
      rcases hp' with rfl
      exact LamX.TabS.nil (hT _ (List.mem_map.mpr ⟨("_law_right", none), by simp [tf], rfl⟩))
    · obtain ⟨f2, fd2, e1, e2, e3, e4⟩ := (d_law (w := w) (facts KX G c ci base hT)).ex
      have z := hmg.symm.trans e1
      cases z
      have ed : fd2 = fd := by
        obtain ⟨oc, od, dV, kV, doc, pm, an, cdv, ct, osl, q1, q2, _⟩ := e2.ex
        obtain ⟨oc', od', dV', kV', doc', pm', an', cdv', ct', osl', r1, r2, _⟩ := Fn.ex
        rw [efa] at q2
        rw [show (He.fAd K D_law.at_) = He.fAd K ("law", none) from rfl, q2] at r2
        cases r2
        rfl
      rw [← ed]
      exact e4
end Kk37
set_option Elab.async false
set_option linter.all false
set_option maxRecDepth 100000
set_option maxHeartbeats 1000000
namespace Kk37
open PySem PySem.Spec PyProof.Rows L2 DL
theorem range_to {g : SS → DL.R D} {δ δ' : SS} {m : Nat} (h : g δ = .ok (.int (m : Nat)) δ') (hm : m ≤ 1000000) : gRange1 g δ = .ok (rangeD 0 m) δ' := by
  rw [gRange1_ap, h, bind_ok]
  show (if -(2 ^ 62) ≤ (m : Int) ∧ (m : Int) < 2 ^ 62 then DL.R.ok (rangeD 0 ((m : Int)).toNat) δ' else .bad) = _
  have hr : -(2 ^ 62) ≤ (m : Int) ∧ (m : Int) < 2 ^ 62 := by
    generalize hB : (2 : Int) ^ 62 = B
    have hB' : (4000000 : Int) ≤ B := by rw [← hB]; decide
    omega
  rw [if_pos hr, Int.toNat_natCast]
theorem S_right {o : OC} (h : Dice 0 o) : ∃ o', G__law_right [.o o] = .ok (.d (.bool true)) [some o'] := by
  obtain ⟨x, o1, hx, d1, e1⟩ := E_pick (q := o) (r := List.replicate 11 none) (g := gD (gLst (gCons (gC (.int 5)) (gCons (gC (.int 20)) (gCons (gC (.int 100)) (gCons (gC (.int 1001)) (gNil))))))) (xs := [.int 5, .int 20, .int 100, .int 1001]) (δ0 := some (.o o) :: List.replicate 11 none) h (by omega) (by simp) (by simp) rfl (by simp)
  obtain ⟨ticks, rfl, t1, t2⟩ : ∃ y : Int, x = .int y ∧ 0 < y ∧ y ≤ 1001 := by
    simp only [List.mem_cons, List.not_mem_nil, or_false] at hx
    rcases hx with rfl | rfl | rfl | rfl
    · exact ⟨5, rfl, by decide, by decide⟩
    · exact ⟨20, rfl, by decide, by decide⟩
    · exact ⟨100, rfl, by decide, by decide⟩
    · exact ⟨1001, rfl, by decide, by decide⟩
  obtain ⟨x, o2, hx, d2, e2⟩ := E_pick (q := o1) (r := some (.d (.int ticks)) :: some (.o (.l [])) :: List.replicate 9 none) (g := gD (gLst (gCons (gC (.int 0)) (gCons (gC (.int 1)) (gCons (gC (.int 4)) (gCons (gC (.int 12)) (gCons (gC (.int 60)) (gNil)))))))) (xs := [.int 0, .int 1, .int 4, .int 12, .int 60]) (δ0 := some (.o o1) :: some (.d (.int ticks)) :: some (.o (.l [])) :: List.replicate 9 none) d1 (by omega) (by simp) (by simp) rfl (by simp)
  obtain ⟨m, rfl, m1⟩ : ∃ y : Nat, x = .int (y : Nat) ∧ y ≤ 60 := by
    simp only [List.mem_cons, List.not_mem_nil, or_false] at hx
    rcases hx with rfl | rfl | rfl | rfl | rfl
    · exact ⟨0, rfl, by decide⟩
    · exact ⟨1, rfl, by decide⟩
    · exact ⟨4, rfl, by decide⟩
    · exact ⟨12, rfl, by decide⟩
    · exact ⟨60, rfl, by decide⟩
  obtain ⟨o3, ts, u3, u4, d3, l3, v3, e3⟩ := rows_loop (r := List.replicate 7 none) d2 (by omega) t1 t2 m m1
  have v : Val ts := ⟨by omega, v3⟩
  have hins := S_inspections v
  rw [show ((inspL ts).map fun p => PyData.int p.1) = (tks (inspL ts)).map .int by unfold tks; rw [List.map_map]; rfl] at hins
  have hap := S_apart v
  have hmo := S_most v
  obtain ⟨o4, y3, y9, y10, d4, e4⟩ := near_loop v (x1 := some (.d (.int ticks))) (x2 := some (.d (.list (ts.map pD)))) (x3 := u3) (x4 := u4) (x6 := some (.d (.tuple ((tks (inspL ts)).map .int)))) (x9 := none) (x10 := none) (x11 := none) d3 (by omega)
  obtain ⟨xs, l5, hall, e5⟩ := bad_list (ts := ts) (x0 := some (.o o4)) (x1 := some (.d (.int ticks))) (x2 := some (.d (.list (ts.map pD)))) (x3 := y3) (x4 := u4) (x6 := some (.d (.tuple ((tks (inspL ts)).map .int)))) (x7 := some (.d (.tuple ((apL ts).map .int)))) (x8 := some (.d (.int (mostL ts)))) (x9 := y9) (x10 := y10) (x11 := none)
  obtain ⟨y, o5, hy, d5, e6⟩ := E_pick (q := o4) (xs := xs) (δ0 := [some (.o o4), some (.d (.int ticks)), some (.d (.list (ts.map pD))), y3, u4, some (.d (.tuple (ts.map tD))), some (.d (.tuple ((tks (inspL ts)).map .int))), some (.d (.tuple ((apL ts).map .int))), some (.d (.int (mostL ts))), y9, y10, none]) d4 (by omega) (fun z => by rw [z] at l5; cases l5) (by omega) rfl e5
  refine ⟨o5, ?_⟩
  show toRF 1 (g__law_right _) = _
  unfold g__law_right
  rw [show ([SV.o o].map some ++ List.replicate 11 none : SS) = some (.o o) :: List.replicate 11 none from rfl]
  rw [gSeq_ap, gParO_ap, e1, show (DL.R.bind (DL.R.ok (PyData.int ticks) (some (SV.o o1) :: List.replicate 11 none)) fun x δ1 => (gLst gNil δ1).bind fun y δ2 => DL.R.ok Fl.nx ((δ2.set 1 (some (.d x))).set 2 (some (.o y)))) = .ok .nx (some (.o o1) :: some (.d (.int ticks)) :: some (.o (.l [])) :: List.replicate 9 none) by simp]
  dsimp only
  rw [gSeq_ap, gFor_ap, range_to e2 (by omega), bind_ok]
  rw [show forLoop (fName 3) gRows (rangeD 0 m) (some (.o o2) :: some (.d (.int ticks)) :: some (.o (.l [])) :: List.replicate 9 none) = _ from e3]
  dsimp only
  rw [gSeq_ap, show gFrz 2 (gAsg 5 (gUn dTuple (gVar 2))) (some (.o o3) :: some (.d (.int ticks)) :: some (.o (.l (ts.map pD))) :: u3 :: u4 :: List.replicate 7 none)
      = .ok .nx (some (.o o3) :: some (.d (.int ticks)) :: some (.d (.list (ts.map pD))) :: u3 :: u4 :: some (.d (.tuple (ts.map tD))) :: List.replicate 6 none) by simp [tD_pD]]
  dsimp only
  rw [gSeq_ap, show gPar3 6 7 8 (gOfR (gCallR 1 G_inspections (gAgD (gVar 5) (gAg0)))) (gOfR (gCallKN 1 0 1 [0] G_apart gAg0 (gAgD (gVar 5) (gAg0)))) (gOfR (gCallR 1 G__law_most_apart (gAgD (gVar 5) (gAg0)))) (some (.o o3) :: some (.d (.int ticks)) :: some (.d (.list (ts.map pD))) :: u3 :: u4 :: some (.d (.tuple (ts.map tD))) :: List.replicate 6 none)
      = .ok .nx [some (.o o3), some (.d (.int ticks)), some (.d (.list (ts.map pD))), u3, u4, some (.d (.tuple (ts.map tD))), some (.d (.tuple ((tks (inspL ts)).map .int))), some (.d (.tuple ((apL ts).map .int))), some (.d (.int (mostL ts))), none, none, none] by
    simp [hins, hap, hmo, pick]]
  dsimp only
  rw [gSeq_ap, show gIf _ _ _ _ = _ from test1_ok v]
  dsimp only
  rw [gSeq_ap, show gIf _ _ _ _ = _ from test2_ok v]
  dsimp only
  rw [gSeq_ap, gFor_ap, show gRange1 (gC (.int 6)) [some (.o o3), some (.d (.int ticks)), some (.d (.list (ts.map pD))), u3, u4, some (.d (.tuple (ts.map tD))), some (.d (.tuple ((tks (inspL ts)).map .int))), some (.d (.tuple ((apL ts).map .int))), some (.d (.int (mostL ts))), none, none, none] = .ok (rangeD 0 6) _ from range_to rfl (by decide), bind_ok]
  rw [show forLoop (fName 3) _ (rangeD 0 6) _ = _ from e4]
  dsimp only
  rw [gSeq_ap, gAsg_ap, e6, bind_ok]
  dsimp only
  show toRF 1 (gEnd [some (.o o5), some (.d (.int ticks)), some (.d (.list (ts.map pD))), y3, u4, some (.d (.tuple (ts.map tD))), some (.d (.tuple ((tks (inspL ts)).map .int))), some (.d (.tuple ((apL ts).map .int))), some (.d (.int (mostL ts))), y9, y10, some (.d y)]) = _
  rw [end_ok (hall y hy)]
  rfl
/-! the law -/
theorem V_nil : Val [] := ⟨by decide, rfl⟩
theorem V_3 : Val [(0, 5), (3, 9), (6, 7)] := ⟨by decide, by decide⟩
theorem byEnd_3 : byEnd [(0, 5), (3, 9), (6, 7)] = [(5, 0), (7, 2), (9, 1)] := by
  refine List.Perm.eq_of_pairwise (le := fun p q => leP p q = true) (fun a b _ _ h1 h2 => leP_anti h1 h2) (byEnd_pw _) ?_ ?_
  · decide
  · refine (List.mergeSort_perm _ _).trans ?_
    decide
theorem insp_3 : (inspL [(0, 5), (3, 9), (6, 7)]).map (fun p => PyData.int p.1) = [.int 5, .int 7] := by
  unfold inspL
  rw [byEnd_3]
  rfl
theorem insp_nil : inspL [] = [] := by simp [inspL, byEnd]
theorem law_true {ns : List Int} (hl : ns.length ≤ 63) : ∃ as, G_law [.q ns] = .ok (.d (.bool true)) as := by
  have hm : ∃ m : Nat, max (1 : Int) (min 8 (ns.length : Int)) = (m : Int) ∧ m ≤ 8 := ⟨(max (1 : Int) (min 8 (ns.length : Int))).toNat, by omega, by omega⟩
  obtain ⟨m, hm1, hm2⟩ := hm
  obtain ⟨fl, δ', e, h1⟩ := for_run (B := fun _ => False) (T := fun _ _ => False) (tg := fName 1) (gb := (gIf (gNot (gT (gOfR (gCallR 1 G__law_right (gAgF (gOfRO (gCallR 2 G__law_dice (gAgS 0 (gAgD (gVar 1) (gAg0)))))))))) (gRet (gC (.bool false))) (gSkip))) (rangeD 0 m)
    (fun j δ => ∃ (u1 : Option SV), δ = ([some (.q ns), u1] : SS)) [some (.q ns), none] ⟨none, rfl⟩
    (fun j d δ hd ⟨u1, e⟩ => by
      subst e
      have hj : j < m := by
        have := (List.getElem?_eq_some_iff.mp hd).1
        rw [rng_len] at this
        exact this
      rw [rng_at hj] at hd
      cases hd
      obtain ⟨o, h1, h2⟩ := S_dice (i := j) hl
      obtain ⟨o', h3⟩ := S_right h2
      refine ⟨[some (.q ns), some (.d (.int (j : Nat)))], rfl, .nx, [some (.q ns), some (.d (.int (j : Nat)))], ?_, _, rfl⟩
      simp [h1, h3])
  cases fl with
  | nx =>
    rcases h1 with ⟨u1, rfl⟩ | h1
    · refine ⟨[none], ?_⟩
      show toRF 1 (g_law _) = _
      unfold g_law
      rw [gSeq_ap, gFor_ap, show ([SV.q ns].map some ++ List.replicate 1 none : SS) = [some (.q ns), none] from rfl]
      have hr : gRange1 (gOp dMax2 (gC (.int 1)) (gOp dMin2 (gC (.int 8)) (gScrLen 0))) [some (.q ns), none] = .ok (rangeD 0 m) [some (.q ns), none] := by
        have k1 : ∀ a b : Int, dMax2 (.int a) (.int b) = some (.int (max a b)) := fun _ _ => rfl
        refine range_to (m := m) ?_ (by omega)
        simp only [gOp_ap, gC_ap, bind_ok, gScrLen_ap, gScr_ap, List.getElem?_cons_zero, dMin2_ii, k1, opt_some]
        rw [hm1]
      rw [hr, bind_ok, e]
      dsimp only
      have i1 := S_inspections V_nil
      have i2 := S_inspections V_3
      rw [insp_3] at i2
      rw [insp_nil] at i1
      have c1 : dEq (.tuple []) (.tuple []) = some (.bool true) := by
        have h := dEq_tups [] []
        rw [decide_eq_true (rfl : ([] : List Int) = [])] at h
        exact h
      have c2 : dEq (.tuple [.int 5, .int 7]) (.tuple [.int 5, .int 7]) = some (.bool true) := by
        have h := dEq_tups [5, 7] [5, 7]
        rw [decide_eq_true (rfl : ([5, 7] : List Int) = [5, 7])] at h
        exact h
      have i1' : G_inspections [.d (.tuple [])] = .ok (.d (.tuple [])) [none] := i1
      have i2' : G_inspections [.d (.tuple [.tuple [.int 0, .int 5], .tuple [.int 3, .int 9], .tuple [.int 6, .int 7]])] = .ok (.d (.tuple [.int 5, .int 7])) [none] := i2
      simp [i1', i2', c1, c2]
    · exact h1.elim
  | bk => exact h1.elim
  | ct => exact h1.elim
  | rt v => exact h1.elim
end Kk37
theorem PySem.Challenge.cw_tonnewise_k37_whole_inspections_holds : PySem.Challenge.rw_tonnewise_k37_whole_inspections.Holds :=
  Kk37.holds_of fun _ h _ => Kk37.law_true h
