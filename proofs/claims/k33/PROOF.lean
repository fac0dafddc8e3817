import PyProof.Rows.All
import Wide.All
import OpenK.AllK
import Wide.FinOn
import HandS.ForMost
import HandS.ForExc
import HandS.Lambda
import HandS.Style
import HandS.TupAny
import HandS.TupMul
import HandS.IsInst
import HandS.Codes
import KE.SortData
import KE.DataCmp
import KE.DataEq
import KE.DatumMore
import HandS.Zip
import HandS.ExcOwn
import HandS.WordsExc
import HandS.ExcInit
import HandS.ExcSuper
import KE.KExcSuper
import HandS.ExcField
import KE.KStateDown
import HandS.Ends
import HandS.Defaults
import HandS.EndTab
import HandS.Head0
import HandS.Head1
import HandS.Head2
import HandS.HeadEnd
import HandS.HeadHook1
import HandS.HeadHook2
import HandS.HeadHook3
import HandS.HeadHook4
import HandS.HeadWalk
import HandS.SetFor
import HandS.RevTup
import HandS.Iter
import KE.GoesEnum
import HandS.Dict
import HandS.DictComp
import HandS.More
import HandS.WordsDict
import HandS.Text
import KE.KEqNest
import PySem.Challenge.RW_tonnewise_k33_whole_netting
set_option Elab.async false
set_option linter.all false
set_option maxRecDepth 100000
set_option maxHeartbeats 4000000
/-! A layer of plain data over the hand layer: what slots hold is told as data, a def is a function on data. -/
namespace DL
open PySem PySem.Spec PyProof.Rows L2
abbrev D := PyData
abbrev Frg := PySem.W.Frag
def keyD : Key → D
  | .inl i => .int i
  | .inr s => .str s
/-! ### what stands for a datum, by frozen objects -/
mutual
inductive Rp (K : Frg) (F : Hp) : D → V → Prop
  | non : Rp K F .none .non
  | bl (b : Bool) : Rp K F (.bool b) (.bl b)
  | int (i : Int) : Rp K F (.int i) (.int i)
  | str (x : Str) : Rp K F (.str x) (.str x)
  | lst {a : Addr} {xs : List V} {ds : List D} : F a = some (.lst xs) → Rps K F ds xs → Rp K F (.list ds) (.ref a)
  | tup {a : Addr} {xs : List V} {ds : List D} : SqT K F a xs → Rps K F ds xs → Rp K F (.tuple ds) (.ref a)
  | dct {a : Addr} {ws : List (Key × V)} {kvs : List (D × D)} : F a = some (.dK ws) → Rpk K F kvs ws → Rp K F (.dict kvs) (.ref a)
inductive Rps (K : Frg) (F : Hp) : List D → List V → Prop
  | nil : Rps K F [] []
  | cons {d : D} {v : V} {ds : List D} {vs : List V} : Rp K F d v → Rps K F ds vs → Rps K F (d :: ds) (v :: vs)
inductive Rpk (K : Frg) (F : Hp) : List (D × D) → List (Key × V) → Prop
  | nil : Rpk K F [] []
  | cons {k : Key} {d : D} {v : V} {ds : List (D × D)} {vs : List (Key × V)} : Rp K F d v → Rpk K F ds vs → Rpk K F ((keyD k, d) :: ds) ((k, v) :: vs)
end
theorem sqt_same {K : Frg} {H H' : Hp} {a : Addr} {xs : List V} (e : Same H H') (h : SqT K H a xs) : SqT K H' a xs := by
  rcases h with (h | ⟨o, h⟩) | h
  · exact .inl (.inl (e _ _ h))
  · exact .inl (.inr ⟨o, e _ _ h⟩)
  · exact .inr h
mutual
theorem Rp.mono {K : Frg} {F F' : Hp} (e : Same F F') : ∀ {d : D} {v : V}, Rp K F d v → Rp K F' d v
  | _, _, .non => .non
  | _, _, .bl b => .bl b
  | _, _, .int b => .int b
  | _, _, .str b => .str b
  | _, _, .lst h r => .lst (e _ _ h) (Rps.mono e r)
  | _, _, .tup h r => .tup (sqt_same e h) (Rps.mono e r)
  | _, _, .dct h r => .dct (e _ _ h) (Rpk.mono e r)
theorem Rps.mono {K : Frg} {F F' : Hp} (e : Same F F') : ∀ {d : List D} {v : List V}, Rps K F d v → Rps K F' d v
  | _, _, .nil => .nil
  | _, _, .cons a b => .cons (Rp.mono e a) (Rps.mono e b)
theorem Rpk.mono {K : Frg} {F F' : Hp} (e : Same F F') : ∀ {d : List (D × D)} {v : List (Key × V)}, Rpk K F d v → Rpk K F' d v
  | _, _, .nil => .nil
  | _, _, .cons a b => .cons (Rp.mono e a) (Rpk.mono e b)
end
theorem Rps.length {K : Frg} {F : Hp} : ∀ {ds : List D} {vs : List V}, Rps K F ds vs → vs.length = ds.length
  | _, _, .nil => rfl
  | _, _, .cons _ t => by rw [List.length_cons, List.length_cons, Rps.length t]
theorem Rps.get {K : Frg} {F : Hp} : ∀ {ds : List D} {vs : List V} {i : Nat} {d : D}, Rps K F ds vs → ds[i]? = some d → ∃ v, vs[i]? = some v ∧ Rp K F d v
  | _, _, _, _, .nil, h => by simp at h
  | _, _, 0, _, .cons r _, h => by
    have e := Option.some.inj h
    subst e
    exact ⟨_, rfl, r⟩
  | _, _, i + 1, _, .cons _ t, h => Rps.get (i := i) t h
theorem Rps.append {K : Frg} {F : Hp} : ∀ {ds es : List D} {vs ws : List V}, Rps K F ds vs → Rps K F es ws → Rps K F (ds ++ es) (vs ++ ws)
  | _, _, _, _, .nil, r => r
  | _, _, _, _, .cons a b, r => .cons a (Rps.append b r)
theorem Rps.set {K : Frg} {F : Hp} {d : D} {v : V} (r : Rp K F d v) : ∀ {ds : List D} {vs : List V} (i : Nat), Rps K F ds vs → Rps K F (ds.set i d) (vs.set i v)
  | _, _, _, .nil => .nil
  | _, _, 0, .cons _ t => .cons r t
  | _, _, i + 1, .cons a t => .cons a (Rps.set r i t)
theorem Rps.take {K : Frg} {F : Hp} : ∀ {ds : List D} {vs : List V} (n : Nat), Rps K F ds vs → Rps K F (ds.take n) (vs.take n)
  | _, _, 0, _ => .nil
  | _, _, _ + 1, .nil => .nil
  | _, _, n + 1, .cons a t => .cons a (Rps.take n t)
theorem Rps.drop {K : Frg} {F : Hp} : ∀ {ds : List D} {vs : List V} (n : Nat), Rps K F ds vs → Rps K F (ds.drop n) (vs.drop n)
  | _, _, 0, h => h
  | _, _, _ + 1, .nil => .nil
  | _, _, n + 1, .cons _ t => Rps.drop n t
theorem Rps.reverse {K : Frg} {F : Hp} : ∀ {ds : List D} {vs : List V}, Rps K F ds vs → Rps K F ds.reverse vs.reverse
  | _, _, .nil => .nil
  | _, _, .cons a t => by
    rw [List.reverse_cons, List.reverse_cons]
    exact (Rps.reverse t).append (.cons a .nil)
theorem Rps.ints {K : Frg} {F : Hp} : ∀ {ns : List Int} {vs : List V}, Rps K F (ns.map .int) vs → vs = ns.map .int
  | [], _, .nil => rfl
  | n :: ns, _, .cons a t => by
    have e := Rps.ints (ns := ns) t
    cases a
    rw [e]
    rfl
theorem Rps.of_ints {K : Frg} {F : Hp} : ∀ ns : List Int, Rps K F (ns.map .int) (ns.map .int)
  | [] => .nil
  | n :: ns => .cons (.int n) (Rps.of_ints ns)
/-! ### what an own object holds -/
inductive OC where
  | l (xs : List D)
  | m (kvs : List (D × D))
@[simp] def OC.toD : OC → D
  | .l xs => .list xs
  | .m kvs => .dict kvs
inductive OR (K : Frg) (F : Hp) : OC → HO → Prop
  | l {xs : List D} {vs : List V} : Rps K F xs vs → OR K F (.l xs) (.lst vs)
  | m {kvs : List (D × D)} {ws : List (Key × V)} : Rpk K F kvs ws → OR K F (.m kvs) (.dK ws)
theorem OR.mono {K : Frg} {F F' : Hp} (e : Same F F') {c : OC} {o : HO} : OR K F c o → OR K F' c o
  | .l r => .l (r.mono e)
  | .m r => .m (r.mono e)
theorem OR.ntb {K : Frg} {F : Hp} {c : OC} {o : HO} (h : OR K F c o) (ps : Array Value) : o ≠ .tbl ps := fun e => by
  subst e
  cases h
theorem OR.rp {K : Frg} {F : Hp} {c : OC} {o : HO} {p : Addr} (h : OR K F c o) (e : F p = some o) : Rp K F c.toD (.ref p) := by
  cases h with
  | l r => exact .lst e r
  | m r => exact .dct e r
/-- a slot holds a datum, an own object, or the script -/
inductive SV where
  | d (x : D)
  | o (c : OC)
  | q (ns : List Int)
  | f (kvs : List (D × D))
abbrev SS := List (Option SV)
def SlotR (K : Frg) (F H : Hp) (a : Addr) : SV → V → Prop
  | .d x, v => Rp K F x v
  | .o c, v => v = .ref a ∧ ∃ o, H a = some o ∧ OR K F c o
  | .q ns, v => ∃ b, v = .ref b ∧ SqL K F b (ns.map V.int)
  | .f kvs, v => ∃ b od ws, v = .ref b ∧ H b = some (.frz od (.dK ws)) ∧ Rpk K F kvs ws
/-- tables of code objects, np: the first np slots are the parameters -/
structure Sx where
  T : List (Addr × Str)
  np : Nat
/-- the entry: the heap, what is frozen, the parameters' addresses -/
structure Dy where
  H0 : Hp
  F0 : Hp
  A0 : Nat → Addr
  O0 : Addr → Prop
/-- nothing at b, or a table -/
def NT (H : Hp) (b : Addr) : Prop := ∀ o, H b = some o → ∃ ps, o = .tbl ps
theorem NT.none {H : Hp} {b : Addr} (h : H b = Option.none) : NT H b := fun o q => by
  rw [h] at q
  cases q
structure Kp (T : List (Addr × Str)) (O : Addr → Prop) (H H' : Hp) : Prop where
  keep : ∀ b o, H b = some o → ¬ O b → (∀ ps, o ≠ .tbl ps) → H' b = some o
  dom : ∀ b, NT H' b → NT H b
structure Rel (K : Frg) (S : Sx) (Y : Dy) (F : Hp) (A : Nat → Addr) (H : Hp) (σ : L2.St) (δ : SS) : Prop where
  sub : Same F H
  ntb : ∀ b ps, F b ≠ some (.tbl ps)
  grow : Same Y.F0 F
  frs : ∀ b, F b ≠ none → Y.F0 b ≠ none ∨ NT Y.H0 b
  kp : Kp S.T Y.O0 Y.H0 H
  tabs : LamX.Tabs S.T H
  len : σ.length = δ.length
  slot : ∀ i x, δ[i]? = some (some x) → ∃ v, σ[i]? = some (some v) ∧ SlotR K F H (A i) x v
  own : ∀ i c, δ[i]? = some (some (.o c)) → F (A i) = none ∧ (i < S.np ∨ NT Y.H0 (A i))
  inj : ∀ i j c c', δ[i]? = some (some (.o c)) → δ[j]? = some (some (.o c')) → A i = A j → i = j
  pin : ∀ i, i < S.np → A i = Y.A0 i
  oadr : ∀ i c, i < S.np → δ[i]? = some (some (.o c)) → Y.O0 (A i)
  opar : ∀ a, Y.O0 a → Y.F0 a = none
def updA (A : Nat → Addr) (i : Nat) (p : Addr) : Nat → Addr := fun j => if j = i then p else A j
theorem set_some {α : Type} {l : List (Option α)} {i j : Nat} {x y : α} (h : (l.set i (some x))[j]? = some (some y)) : (j = i ∧ x = y ∧ i < l.length) ∨ (j ≠ i ∧ l[j]? = some (some y)) := by
  by_cases e : i = j
  · subst e
    by_cases hl : i < l.length
    · rw [List.getElem?_set_self hl] at h
      exact .inl ⟨rfl, by simpa using h, hl⟩
    · rw [List.getElem?_eq_none (by simpa using hl)] at h
      cases h
  · rw [List.getElem?_set_ne e] at h
    exact .inr ⟨fun z => e z.symm, h⟩
theorem set_none {α : Type} {l : List (Option α)} {i j : Nat} {y : α} (h : (l.set i none)[j]? = some (some y)) : j ≠ i ∧ l[j]? = some (some y) := by
  by_cases e : i = j
  · subst e
    by_cases hl : i < l.length
    · rw [List.getElem?_set_self hl] at h
      cases h
    · rw [List.getElem?_eq_none (by simpa using hl)] at h
      cases h
  · rw [List.getElem?_set_ne e] at h
    exact ⟨fun z => e z.symm, h⟩
section
variable {K : Frg} {S : Sx} {Y : Dy} {F : Hp} {A : Nat → Addr} {H : Hp} {σ : L2.St} {δ : SS}
theorem Kp.refl (T : List (Addr × Str)) (O : Addr → Prop) (H : Hp) : Kp T O H H := ⟨fun _ _ h _ _ => h, fun _ h => h⟩
theorem SlotR.mono {F' H' : Hp} {a : Addr} {x : SV} {v : V} (e : Same F F') (k : ∀ c o, x = .o c → H a = some o → H' a = some o) (kf : ∀ b od ws, H b = some (.frz od (.dK ws)) → H' b = some (.frz od (.dK ws))) (h : SlotR K F H a x v) : SlotR K F' H' a x v := by
  cases x with
  | d x => exact Rp.mono e h
  | o c =>
    obtain ⟨e1, o, e2, r⟩ := h
    exact ⟨e1, o, k c o rfl e2, r.mono e⟩
  | q ns =>
    obtain ⟨b, e1, r⟩ := h
    exact ⟨b, e1, e.seq r⟩
  | f kvs =>
    obtain ⟨b, od, ws, e1, e2, r⟩ := h
    exact ⟨b, od, ws, e1, kf _ _ _ e2, r.mono e⟩
theorem tabs_laid {T : List (Addr × Str)} {p : Addr} {o : HO} (h : LamX.Tabs T H) (hp : H p = none) : LamX.Tabs T (upd H p o) := h.ext fun b u q => by
  rw [upd_ne (ne_of_none q hp)]
  exact q
theorem kp_laid {T : List (Addr × Str)} {O : Addr → Prop} {H0 : Hp} {p : Addr} {o : HO} (h : Kp T O H0 H) (hp : H p = none) : Kp T O H0 (upd H p o) := by
  refine ⟨fun b u q n t => ?_, fun b q => h.dom b ?_⟩
  · have := h.keep b u q n t
    rw [upd_ne (ne_of_none this hp)]
    exact this
  · by_cases e : b = p
    · rw [e]
      exact .none hp
    · exact fun o z => q o (by rw [upd_ne e]; exact z)
/-- the slot i takes a datum -/
theorem Rel.setD (R : Rel K S Y F A H σ δ) {i : Nat} {d : D} {v : V} (r : Rp K F d v) : Rel K S Y F A H (σ.set i (some v)) (δ.set i (some (.d d))) := by
  refine ⟨R.sub, R.ntb, R.grow, R.frs, R.kp, R.tabs, by simpa using R.len, fun j x h => ?_, fun j c h => ?_, fun j k c c' h1 h2 => ?_, R.pin, fun j c hj h => ?_, R.opar⟩
  · rcases set_some h with ⟨rfl, rfl, hl⟩ | ⟨ne, h⟩
    · exact ⟨v, List.getElem?_set_self (by rw [R.len]; exact hl), r⟩
    · obtain ⟨w, h1, h2⟩ := R.slot j x h
      exact ⟨w, by rw [List.getElem?_set_ne (Ne.symm ne)]; exact h1, h2⟩
  · rcases set_some h with ⟨_, e, _⟩ | ⟨_, h⟩
    · cases e
    · exact R.own j c h
  · rcases set_some h1 with ⟨_, e, _⟩ | ⟨_, h1⟩
    · cases e
    · rcases set_some h2 with ⟨_, e, _⟩ | ⟨_, h2⟩
      · cases e
      · exact R.inj j k c c' h1 h2
  · rcases set_some h with ⟨_, e, _⟩ | ⟨_, h⟩
    · cases e
    · exact R.oadr j c hj h
/-- the slot i is forgotten -/
theorem Rel.drop (R : Rel K S Y F A H σ δ) (i : Nat) : Rel K S Y F A H σ (δ.set i none) := by
  refine ⟨R.sub, R.ntb, R.grow, R.frs, R.kp, R.tabs, by simpa using R.len, fun j x h => R.slot j x (set_none h).2, fun j c h => R.own j c (set_none h).2,
    fun j k c c' h1 h2 => R.inj j k c c' (set_none h1).2 (set_none h2).2, R.pin, fun j c hj h => R.oadr j c hj (set_none h).2, R.opar⟩
/-- tables may grow -/
theorem Rel.extN (R : Rel K S Y F A H σ δ) {H1 : Hp} (e : LamX.ExtN H H1) (t : LamX.Tabs S.T H1) : Rel K S Y F A H1 σ δ := by
  refine ⟨fun b u q => e b u (R.sub b u q) fun ps z => R.ntb b ps (by rw [← z]; exact q), R.ntb, R.grow, R.frs, ⟨fun b o q n nt => e b o (R.kp.keep b o q n nt) nt, fun b q => R.kp.dom b fun o z => ?_⟩, t, R.len, fun i x h => ?_, R.own, R.inj, R.pin, R.oadr, R.opar⟩
  · by_cases y : ∃ ps, o = .tbl ps
    · exact y
    · exact q o (e b o z fun ps w => y ⟨ps, w⟩)
  · obtain ⟨v, h1, h2⟩ := R.slot i x h
    cases x with
    | d x => exact ⟨v, h1, h2⟩
    | q ns => exact ⟨v, h1, h2⟩
    | f kvs =>
      obtain ⟨b, od, ws, e1, e2, r⟩ := h2
      exact ⟨v, h1, b, od, ws, e1, e _ _ e2 (fun ps z => nomatch z), r⟩
    | o c =>
      obtain ⟨e1, o, e2, r⟩ := h2
      exact ⟨v, h1, e1, o, e _ _ e2 r.ntb, r⟩
/-- p: a new object, nobody's as yet -/
structure Fresh (S : Sx) (Y : Dy) (F : Hp) (A : Nat → Addr) (H : Hp) (δ : SS) (p : Addr) : Prop where
  f : F p = none
  h0 : NT Y.H0 p
  ne : ∀ i c, δ[i]? = some (some (.o c)) → A i ≠ p
theorem Rel.own_at (R : Rel K S Y F A H σ δ) {i : Nat} {c : OC} (h : δ[i]? = some (some (.o c))) : ∃ o, σ[i]? = some (some (.ref (A i))) ∧ H (A i) = some o ∧ OR K F c o := by
  obtain ⟨v, h1, h2⟩ := R.slot i _ h
  obtain ⟨e, o, h3, h4⟩ := h2
  exact ⟨o, by rw [h1, e], h3, h4⟩
theorem Rel.fresh (R : Rel K S Y F A H σ δ) {p : Addr} (hp : H p = none) : Fresh S Y F A H δ p := by
  refine ⟨R.sub.free hp, R.kp.dom p (.none hp), fun i c h e => ?_⟩
  obtain ⟨o, _, h3, _⟩ := R.own_at h
  rw [e, hp] at h3
  cases h3
/-- a new object is laid -/
theorem Rel.laid (R : Rel K S Y F A H σ δ) {p : Addr} {o : HO} (hp : H p = none) : Rel K S Y F A (upd H p o) σ δ := by
  refine ⟨fun b u q => ?_, R.ntb, R.grow, R.frs, kp_laid R.kp hp, tabs_laid R.tabs hp, R.len, fun i x h => ?_, R.own, R.inj, R.pin, R.oadr, R.opar⟩
  · have := R.sub b u q
    rw [upd_ne (ne_of_none this hp)]
    exact this
  · obtain ⟨v, h1, h2⟩ := R.slot i x h
    refine ⟨v, h1, h2.mono (Same.refl F) (fun c u e q => ?_) fun b od ws q => ?_⟩
    · rw [upd_ne (ne_of_none q hp)]
      exact q
    · rw [upd_ne (ne_of_none q hp)]
      exact q
theorem same_upd {F : Hp} {p : Addr} {o : HO} (h : F p = none) : Same F (upd F p o) := fun b u q => by
  rw [upd_ne (ne_of_none q h)]
  exact q
/-- a fresh object is frozen -/
theorem Rel.freeze (R : Rel K S Y F A H σ δ) {p : Addr} {o : HO} (hp : H p = some o) (fr : Fresh S Y F A H δ p) (nt : ∀ ps, o ≠ .tbl ps) : Rel K S Y (upd F p o) A H σ δ := by
  refine ⟨fun b u q => ?_, fun b ps => ?_, fun b u q => ?_, fun b q => ?_, R.kp, R.tabs, R.len, fun i x h => ?_, fun i c h => ?_, R.inj, R.pin, R.oadr, R.opar⟩
  · by_cases e : b = p
    · rw [e, upd_same] at q
      rw [e, hp, q]
    · rw [upd_ne e] at q
      exact R.sub b u q
  · by_cases e : b = p
    · rw [e, upd_same]
      exact fun z => nt ps (Option.some.inj z)
    · rw [upd_ne e]
      exact R.ntb b ps
  · exact same_upd fr.f b u (R.grow b u q)
  · by_cases e : b = p
    · rw [e]
      exact .inr fr.h0
    · rw [upd_ne e] at q
      exact R.frs b q
  · obtain ⟨v, h1, h2⟩ := R.slot i x h
    exact ⟨v, h1, h2.mono (same_upd fr.f) (fun _ _ _ q => q) fun _ _ _ q => q⟩
  · obtain ⟨h1, h2⟩ := R.own i c h
    exact ⟨by rw [upd_ne (fr.ne i c h)]; exact h1, h2⟩
/-- a new object, frozen at once -/
theorem Rel.lay (R : Rel K S Y F A H σ δ) {p : Addr} {o : HO} (hp : H p = none) (nt : ∀ ps, o ≠ .tbl ps) : Rel K S Y (upd F p o) A (upd H p o) σ δ :=
  (R.laid hp).freeze upd_same ⟨(R.fresh hp).f, (R.fresh hp).h0, (R.fresh hp).ne⟩ nt
/-- the slot i takes a fresh object -/
theorem Rel.setO (R : Rel K S Y F A H σ δ) {i : Nat} {p : Addr} {c : OC} {o : HO} (hi : S.np ≤ i) (hp : H p = some o) (r : OR K F c o) (fr : Fresh S Y F A H δ p) :
    Rel K S Y F (updA A i p) H (σ.set i (some (.ref p))) (δ.set i (some (.o c))) := by
  have self : updA A i p i = p := if_pos rfl
  have other : ∀ {j}, j ≠ i → updA A i p j = A j := fun h => if_neg h
  refine ⟨R.sub, R.ntb, R.grow, R.frs, R.kp, R.tabs, by simpa using R.len, fun j x h => ?_, fun j c' h => ?_, fun j k c' c'' h1 h2 e => ?_, fun j hj => ?_, fun j c' hj h => ?_, R.opar⟩
  · rcases set_some h with ⟨rfl, rfl, hl⟩ | ⟨ne, h⟩
    · exact ⟨.ref p, List.getElem?_set_self (by rw [R.len]; exact hl), by rw [self]; exact ⟨rfl, o, hp, r⟩⟩
    · obtain ⟨w, h1, h2⟩ := R.slot j x h
      exact ⟨w, by rw [List.getElem?_set_ne (Ne.symm ne)]; exact h1, by rw [other ne]; exact h2⟩
  · rcases set_some h with ⟨rfl, e, _⟩ | ⟨ne, h⟩
    · rw [self]
      exact ⟨fr.f, .inr fr.h0⟩
    · rw [other ne]
      exact R.own j c' h
  · rcases set_some h1 with ⟨e1, _, _⟩ | ⟨n1, g1⟩
    · rcases set_some h2 with ⟨e2, _, _⟩ | ⟨n2, g2⟩
      · rw [e1, e2]
      · rw [e1, self, other n2] at e
        exact absurd e.symm (fr.ne k _ g2)
    · rcases set_some h2 with ⟨e2, _, _⟩ | ⟨n2, g2⟩
      · rw [e2, self, other n1] at e
        exact absurd e (fr.ne j _ g1)
      · rw [other n1, other n2] at e
        exact R.inj j k _ _ g1 g2 e
  · rw [other (by omega)]
    exact R.pin j hj
  · rcases set_some h with ⟨rfl, _, _⟩ | ⟨ne, h⟩
    · omega
    · rw [other ne]
      exact R.oadr j c' hj h
/-- an own object is written -/
theorem Rel.wr (R : Rel K S Y F A H σ δ) {i : Nat} {c c' : OC} {o' : HO} (h : δ[i]? = some (some (.o c))) (r : OR K F c' o') : Rel K S Y F A (upd H (A i) o') σ (δ.set i (some (.o c'))) := by
  obtain ⟨o, hσ, hH, hr⟩ := R.own_at h
  obtain ⟨hF, hown⟩ := R.own i c h
  have hl : i < δ.length := (List.getElem?_eq_some_iff.mp h).1
  refine ⟨fun b u q => ?_, R.ntb, R.grow, R.frs, ⟨fun b u q n t => ?_, fun b q => R.kp.dom b ?_⟩, fun p hp => ?_, by simpa using R.len, fun j x hx => ?_, fun j d hd => ?_, fun j k d d' h1 h2 => ?_, R.pin, fun j d hj hd => ?_, R.opar⟩
  · rw [upd_ne (ne_of_none q hF)]
    exact R.sub b u q
  · have ne : b ≠ A i := fun e => by
      rcases hown with z | z
      · exact n (by rw [e]; exact R.oadr i c z h)
      · obtain ⟨ps, y⟩ := z u (by rw [← e]; exact q)
        exact t ps y
    rw [upd_ne ne]
    exact R.kp.keep b u q n t
  · by_cases e : b = A i
    · obtain ⟨ps, y⟩ := q o' (by rw [e, upd_same])
      exact absurd y (r.ntb ps)
    · exact fun o z => q o (by rw [upd_ne e]; exact z)
  · obtain ⟨ps, h1, h2, h3⟩ := R.tabs p hp
    have n1 : p.1 ≠ A i := ne_of h1 hH fun z => hr.ntb ps z.symm
    refine ⟨ps, by rw [upd_ne n1]; exact h1, h2, fun pos cv hc => ?_⟩
    obtain ⟨cc, e1, e2⟩ := h3 pos cv hc
    have n2 : cc ≠ A i := ne_of e2 hH fun z => by
      rw [← z] at hr
      cases hr
    exact ⟨cc, e1, by rw [upd_ne n2]; exact e2⟩
  · rcases set_some hx with ⟨rfl, rfl, _⟩ | ⟨ne, hx⟩
    · exact ⟨_, hσ, rfl, o', upd_same, r⟩
    · obtain ⟨v, h1, h2⟩ := R.slot j x hx
      refine ⟨v, h1, h2.mono (Same.refl F) (fun d u e q => ?_) fun b od ws q => ?_⟩
      · subst e
        rw [upd_ne fun z => ne (R.inj j i _ _ hx h z)]
        exact q
      · rw [upd_ne fun z => by
          rw [z, hH] at q
          cases q
          cases hr]
        exact q
  · rcases set_some hd with ⟨rfl, _, _⟩ | ⟨ne, hd⟩
    · exact ⟨hF, hown⟩
    · exact R.own j d hd
  · rcases set_some h1 with ⟨e1, _, _⟩ | ⟨n1, g1⟩
    · rcases set_some h2 with ⟨e2, _, _⟩ | ⟨n2, g2⟩
      · exact fun _ => e1.trans e2.symm
      · rw [e1]
        exact R.inj i k _ _ h g2
    · rcases set_some h2 with ⟨e2, _, _⟩ | ⟨n2, g2⟩
      · rw [e2]
        exact R.inj j i _ _ g1 h
      · exact R.inj j k _ _ g1 g2
  · rcases set_some hd with ⟨rfl, _, _⟩ | ⟨ne, hd⟩
    · exact R.oadr j c hj h
    · exact R.oadr j d hj hd
/-- an own object is frozen -/
theorem Rel.frz (R : Rel K S Y F A H σ δ) {i : Nat} {c : OC} (h : δ[i]? = some (some (.o c))) (hi : S.np ≤ i) : ∃ F', Rel K S Y F' A H σ (δ.set i (some (.d c.toD))) ∧ Same F F' := by
  obtain ⟨o, hσ, hH, hr⟩ := R.own_at h
  obtain ⟨hF, hown⟩ := R.own i c h
  have h0 : NT Y.H0 (A i) := hown.elim (fun z => absurd z (by omega)) fun z => z
  have fr : Fresh S Y F A H (δ.set i none) (A i) := ⟨hF, h0, fun j d hd e => (set_none hd).1 (R.inj j i _ _ (set_none hd).2 h e)⟩
  have R1 := (R.drop i).freeze hH fr hr.ntb
  have R2 := R1.setD (i := i) (d := c.toD) (v := .ref (A i)) ((hr.mono (same_upd hF)).rp upd_same)
  rw [List.set_set] at R2
  have e : σ.set i (some (.ref (A i))) = σ := by
    apply List.ext_getElem?
    intro j
    by_cases z : i = j
    · subst z
      rw [hσ, List.getElem?_set_self (by rw [R.len]; exact (List.getElem?_eq_some_iff.mp h).1)]
    · rw [List.getElem?_set_ne z]
  rw [e] at R2
  exact ⟨_, R2, same_upd hF⟩
end
end DL
set_option Elab.async false
set_option linter.all false
set_option maxRecDepth 100000
set_option maxHeartbeats 4000000
namespace DL
open PySem PySem.Spec PyProof.Rows L2
/-! ### answers -/
/-- an answer with the slots behind it: a value, an error of the class c whose field f holds x, or nothing told -/
inductive R (α : Type) where
  | bad
  | ok (a : α) (δ : SS)
  | ex (c f : Str) (x : D) (δ : SS)
def R.bind {α β : Type} : R α → (α → SS → R β) → R β
  | .bad, _ => .bad
  | .ok a δ, k => k a δ
  | .ex c f x δ, _ => .ex c f x δ
def R.opt {α : Type} : Option α → SS → R α
  | some a, δ => .ok a δ
  | none, _ => .bad
def ExR (K : Frg) (mg : Str → Option Value) (F H : Hp) (c f : Str) (x : D) (cls : Value) (dd : Option Addr) : Prop :=
  ∃ C dx v, mg c = some (.ref C) ∧ cls = .ref C ∧ dd = some dx ∧ H dx = some (.xd [(f, v)]) ∧ Rp K F x v
/-- what must hold so that an answer leads to Q -/
def Run {α β : Type} (K : Frg) (mg : Str → Option Value) (S : Sx) (Y : Dy) (A : Nat → Addr) (σ : L2.St) (W : WX) (ρ : Hp → Hp → SS → α → β → Prop) (F : Hp) (r : R α) (Q : β → Hp → Prop) : Prop :=
  match r with
  | .bad => False
  | .ok a δ' => ∀ b H' F', Rel K S Y F' A H' σ δ' → Same F F' → ρ F' H' δ' a b → Q b H'
  | .ex c f x δ' => ∀ cls dd H' F', Rel K S Y F' A H' σ δ' → Same F F' → ExR K mg F' H' c f x cls dd → W cls dd σ H'
section
variable {α β γ κ : Type} {K : Frg} {mg : Str → Option Value} {S : Sx} {Y : Dy} {A : Nat → Addr} {σ : L2.St} {W : WX} {F F' : Hp}
theorem Run.weak {ρ : Hp → Hp → SS → α → β → Prop} {r : R α} {Q : β → Hp → Prop} (h : Run K mg S Y A σ W ρ F r Q) (e : Same F F') : Run K mg S Y A σ W ρ F' r Q := by
  cases r with
  | bad => exact h
  | ok a δ => exact fun b H' F2 R s q => h b H' F2 R (e.trans s) q
  | ex c f x δ => exact fun cls dd H' F2 R s q => h cls dd H' F2 R (e.trans s) q
theorem Run.bind {ρ : Hp → Hp → SS → α → β → Prop} {ρ' : Hp → Hp → SS → γ → κ → Prop} {r : R α} {k : α → SS → R γ} {Q : κ → Hp → Prop} {Q1 : β → Hp → Prop} (h : Run K mg S Y A σ W ρ' F (r.bind k) Q)
    (hk : ∀ a δ1 b H1 F1, r = .ok a δ1 → Rel K S Y F1 A H1 σ δ1 → Same F F1 → ρ F1 H1 δ1 a b → Run K mg S Y A σ W ρ' F1 (k a δ1) Q → Q1 b H1) : Run K mg S Y A σ W ρ F r Q1 := by
  cases r with
  | bad => exact h
  | ok a δ => exact fun b H' F2 R s q => hk a δ b H' F2 rfl R s q (Run.weak h s)
  | ex c f x δ => exact h
theorem Run.opt {ρ : Hp → Hp → SS → α → β → Prop} {o : Option α} {δ : SS} {Q : β → Hp → Prop} (h : Run K mg S Y A σ W ρ F (R.opt o δ) Q) : ∃ a, o = some a ∧ ∀ b H' F', Rel K S Y F' A H' σ δ → Same F F' → ρ F' H' δ a b → Q b H' := by
  cases o with
  | none => exact h.elim
  | some a => exact ⟨a, rfl, h⟩
end
abbrev ρD (K : Frg) : Hp → Hp → SS → D → V → Prop := fun F' _ _ d v => Rp K F' d v
abbrev ρA (K : Frg) : Hp → Hp → SS → List D → List V → Prop := fun F' _ _ d v => Rps K F' d v
abbrev ρB : Hp → Hp → SS → Bool → Bool → Prop := fun _ _ _ a b => a = b
abbrev ρO (K : Frg) (S : Sx) (Y : Dy) (A : Nat → Addr) : Hp → Hp → SS → OC → V → Prop := fun F' H' δ' c v => ∃ p o, v = .ref p ∧ H' p = some o ∧ OR K F' c o ∧ Fresh S Y F' A H' δ' p
/-! ### the judgements -/
/-- the expression e gives the datum that g tells -/
def EV (X : Cx) (S : Sx) (W : WX) (e : Expr) (g : SS → R D) : Prop :=
  ∃ t, PE X e t ∧ ∀ Y A σ H δ F Q, Rel X.K S Y F A H σ δ → Run X.K X.mg S Y A σ W (ρD X.K) F (g δ) Q → t σ H Q
/-- .. a new object -/
def EO (X : Cx) (S : Sx) (W : WX) (e : Expr) (g : SS → R OC) : Prop :=
  ∃ t, PE X e t ∧ ∀ Y A σ H δ F Q, Rel X.K S Y F A H σ δ → Run X.K X.mg S Y A σ W (ρO X.K S Y A) F (g δ) Q → t σ H Q
def TV (X : Cx) (S : Sx) (W : WX) (e : Expr) (g : SS → R Bool) : Prop :=
  ∃ t, PT X e t ∧ ∀ Y A σ H δ F Q, Rel X.K S Y F A H σ δ → Run X.K X.mg S Y A σ W ρB F (g δ) Q → t σ H Q
def TWV (X : Cx) (S : Sx) (W : WX) (e : Expr) (g : SS → R Bool) : Prop :=
  ∃ t, PW X e t ∧ ∀ Y A σ H δ F Q, Rel X.K S Y F A H σ δ → Run X.K X.mg S Y A σ W ρB F (g δ) Q → t σ H Q
def AV (X : Cx) (S : Sx) (W : WX) (es : List Expr) (g : SS → R (List D)) : Prop :=
  ∃ t, PA X es t ∧ ∀ Y A σ H δ F Q, Rel X.K S Y F A H σ δ → Run X.K X.mg S Y A σ W (ρA X.K) F (g δ) Q → t σ H Q
section
variable {X : Cx} {S : Sx} {W : WX} {a b e : Expr} {es : List Expr} {pos : Pos} {ga gb : SS → R D}
/-! ### small parts -/
theorem opt_run {α β : Type} {K : Frg} {mg : Str → Option Value} {S : Sx} {Y : Dy} {A : Nat → Addr} {σ : L2.St} {W : WX} {ρ : Hp → Hp → SS → α → β → Prop} {F : Hp} {a : α} {δ : SS} {Q : β → Hp → Prop} {b : β} {H : Hp} (h : Run K mg S Y A σ W ρ F (.ok a δ) Q) (R : Rel K S Y F A H σ δ) (q : ρ F H δ a b) : Q b H :=
  h b H F R (Same.refl F) q
/-- a new object as a datum -/
def gD (g : SS → R OC) : SS → R D := fun δ => (g δ).bind fun c δ' => .ok c.toD δ'
theorem ev_of {g : SS → R OC} (h : EO X S W e g) : EV X S W e (gD g) := by
  obtain ⟨t, p, q⟩ := h
  refine ⟨t, p, fun Y A σ H δ F Q Rl hr => q _ _ _ _ _ _ _ Rl (Run.bind hr fun c δ1 v H1 F1 _ R1 s1 ⟨p, o, e1, e2, r, fr⟩ h1 => ?_)⟩
  subst e1
  exact h1 _ _ _ (R1.freeze e2 fr r.ntb) (same_upd fr.f) ((r.mono (same_upd fr.f)).rp upd_same)
def gVar (i : Nat) : SS → R D := fun δ => match δ[i]? with
  | some (some (.d x)) => .ok x δ
  | _ => .bad
theorem ev_var (i : Nat) {x : Str} (hN : X.N[i]? = some x := by rfl) (hv : Vis X.env.scope x := by first | exact Or.inl rfl | exact Or.inr (Or.inl rfl) | exact Or.inr (Or.inr rfl)) (hd : (x == ("__debug__" : Str)) = false := by decide)
    (hcd : (x == ("__classdict__" : Str)) = false := by decide) : EV X S W (.Name x pos) (gVar i) := by
  refine ⟨_, pe_var hN hv hd hcd, fun Y A σ H δ F Q Rl h => ?_⟩
  show ∃ v, σ[i]? = some (some v) ∧ Q v H
  unfold gVar at h
  split at h
  · rename_i x e
    obtain ⟨v, h1, h2⟩ := Rl.slot i _ e
    exact ⟨v, h1, opt_run h Rl h2⟩
  · exact h.elim
def gC (d : D) : SS → R D := fun δ => .ok d δ
theorem ev_int {i : Int} {j : Nat} : EV X S W (.Constant (.int i) j pos) (gC (.int i)) := ⟨_, pe_int, fun Y A σ H δ F Q Rl h => opt_run h Rl (.int i)⟩
theorem ev_bl {i : Bool} {j : Nat} : EV X S W (.Constant (.bool i) j pos) (gC (.bool i)) := ⟨_, pe_bl, fun Y A σ H δ F Q Rl h => opt_run h Rl (.bl i)⟩
theorem ev_non {j : Nat} : EV X S W (.Constant .none j pos) (gC .none) := ⟨_, pe_non, fun Y A σ H δ F Q Rl h => opt_run h Rl .non⟩
theorem ev_str {x : Str} {j : Nat} : EV X S W (.Constant (.str x) j pos) (gC (.str x)) := ⟨_, pe_str, fun Y A σ H δ F Q Rl h => opt_run h Rl (.str x)⟩
/-- a module's int, text -/
theorem ev_globI {x : Str} {i : Int} {t : Tok} (hm : X.mg x = some (.int i t)) (hg : Gl X x := by rfl) (hd : (x == ("__debug__" : Str)) = false := by decide) : EV X S W (.Name x pos) (gC (.int i)) :=
  ⟨_, pe_glob hg hm (v := .int i) ⟨_, rfl⟩ hd, fun Y A σ H δ F Q Rl h => opt_run h Rl (.int i)⟩
theorem ev_globS {x : Str} {i : Str} {t : Tok} (hm : X.mg x = some (.str i t)) (hg : Gl X x := by rfl) (hd : (x == ("__debug__" : Str)) = false := by decide) : EV X S W (.Name x pos) (gC (.str i)) :=
  ⟨_, pe_glob hg hm (v := .str i) ⟨_, rfl⟩ hd, fun Y A σ H δ F Q Rl h => opt_run h Rl (.str i)⟩
/-! ### two places -/
def gOp (f : D → D → Option D) (ga gb : SS → R D) : SS → R D := fun δ => (ga δ).bind fun x δ1 => (gb δ1).bind fun y δ2 => R.opt (f x y) δ2
def OpOk (X : Cx) (S : Sx) (r : R2) (f : D → D → Option D) : Prop := ∀ Y A σ H δ F v u x y d Q, Rel X.K S Y F A H σ δ → Rp X.K F x v → Rp X.K F y u → f x y = some d →
  (∀ w H' F', Rel X.K S Y F' A H' σ δ → Same F F' → Rp X.K F' d w → Q w H') → r v u H Q
theorem op_run {r : R2} {f : D → D → Option D} {ta tb : TE} (hf : OpOk X S r f)
    (qa : ∀ Y A σ H δ F Q, Rel X.K S Y F A H σ δ → Run X.K X.mg S Y A σ W (ρD X.K) F (ga δ) Q → ta σ H Q) (qb : ∀ Y A σ H δ F Q, Rel X.K S Y F A H σ δ → Run X.K X.mg S Y A σ W (ρD X.K) F (gb δ) Q → tb σ H Q) :
    ∀ Y A σ H δ F Q, Rel X.K S Y F A H σ δ → Run X.K X.mg S Y A σ W (ρD X.K) F (gOp f ga gb δ) Q → tOp r ta tb σ H Q := fun Y A σ H δ F Q Rl h => by
  refine qa _ _ _ _ _ _ _ Rl (Run.bind h fun x δ1 v H1 F1 e R1 s1 rx h1 => ?_)
  refine qb _ _ _ _ _ _ _ R1 (Run.bind h1 fun y δ2 u H2 F2 e2 R2 s2 ry h2 => ?_)
  obtain ⟨d, ed, q⟩ := Run.opt h2
  exact hf _ _ _ _ _ _ _ _ _ _ _ _ R2 (rx.mono s2) ry ed q
theorem ev_op {op : Operator} {r : R2} {f : D → D → Option D} (ho : OpR X (binaryOp op) r) (hf : OpOk X S r f) (ha : EV X S W a ga) (hb : EV X S W b gb) : EV X S W (.BinOp a op b pos) (gOp f ga gb) := by
  obtain ⟨ta, pa, qa⟩ := ha
  obtain ⟨tb, pb, qb⟩ := hb
  exact ⟨_, pe_op ho pa pb, op_run hf qa qb⟩
theorem ev_cmp {op : CmpOp} {r : R2} {f : D → D → Option D} (ho : OpR X (compareOp op) r) (hf : OpOk X S r f) (ha : EV X S W a ga) (hb : EV X S W b gb) (hm : behindInMarks op b = false := by first | exact nomark _ | rfl) : EV X S W (.Compare a [op] [b] pos) (gOp f ga gb) := by
  obtain ⟨ta, pa, qa⟩ := ha
  obtain ⟨tb, pb, qb⟩ := hb
  exact ⟨_, pe_cmpR ho pa pb hm, op_run hf qa qb⟩
def dBool : D → Option Bool
  | .bool b => some b
  | _ => none
theorem rp_bool {K : Frg} {F : Hp} {x : D} {v : V} {b : Bool} (r : Rp K F x v) (h : dBool x = some b) : v = .bl b := by
  cases r <;> simp [dBool] at h
  subst h
  rfl
/-- a value that is a bool, as a test -/
def gT (g : SS → R D) : SS → R Bool := fun δ => (g δ).bind fun x δ1 => R.opt (dBool x) δ1
theorem gT_run {t : TE} {g : SS → R D} (q : ∀ Y A σ H δ F Q, Rel X.K S Y F A H σ δ → Run X.K X.mg S Y A σ W (ρD X.K) F (g δ) Q → t σ H Q) :
    ∀ Y A σ H δ F Q, Rel X.K S Y F A H σ δ → Run X.K X.mg S Y A σ W ρB F (gT g δ) Q → t σ H fun x H1 => ∃ k, x = .bl k ∧ Q k H1 := fun Y A σ H δ F Q Rl h => by
  refine q _ _ _ _ _ _ _ Rl (Run.bind h fun x δ1 v H1 F1 e R1 s1 rx h1 => ?_)
  obtain ⟨b, eb, q⟩ := Run.opt h1
  exact ⟨b, rp_bool rx eb, q b _ _ R1 (Same.refl _) rfl⟩
theorem tv_of {g : SS → R D} (h : EV X S W e g) (he : ∀ whole, isTrue e X.env whole = (do let v ← whole; standAt e.pos; holding [v] (truthy v)) := by intro _; rfl) : TV X S W e (gT g) := by
  obtain ⟨t, p, q⟩ := h
  exact ⟨_, pt_val p he, gT_run q⟩
theorem tv_cmp {op : CmpOp} {r : R2} {f : D → D → Option D} (ho : OpR X (compareOp op) r) (hf : OpOk X S r f) (ha : EV X S W a ga) (hb : EV X S W b gb) (hm : behindInMarks op b = false := by first | exact nomark _ | rfl) : TV X S W (.Compare a [op] [b] pos) (gT (gOp f ga gb)) := by
  obtain ⟨ta, pa, qa⟩ := ha
  obtain ⟨tb, pb, qb⟩ := hb
  exact ⟨_, pt_cmpR ho pa pb hm, gT_run (op_run hf qa qb)⟩
/-! ### chains -/
variable {c : Expr} {gc : SS → R D}
def gChain (f f' : D → D → Option D) (ga gb gc : SS → R D) : SS → R D := fun δ => (ga δ).bind fun x δ1 => (gb δ1).bind fun y δ2 => (R.opt ((f x y).bind dBool) δ2).bind fun k δ3 =>
  if k = true then (gc δ3).bind fun z δ4 => R.opt (f' y z) δ4 else .ok (.bool false) δ3
theorem chain_run {r r' : R2} {f f' : D → D → Option D} {ta tb tc : TE} (hf : OpOk X S r f) (hf' : OpOk X S r' f')
    (qa : ∀ Y A σ H δ F Q, Rel X.K S Y F A H σ δ → Run X.K X.mg S Y A σ W (ρD X.K) F (ga δ) Q → ta σ H Q) (qb : ∀ Y A σ H δ F Q, Rel X.K S Y F A H σ δ → Run X.K X.mg S Y A σ W (ρD X.K) F (gb δ) Q → tb σ H Q)
    (qc : ∀ Y A σ H δ F Q, Rel X.K S Y F A H σ δ → Run X.K X.mg S Y A σ W (ρD X.K) F (gc δ) Q → tc σ H Q) :
    ∀ Y A σ H δ F Q, Rel X.K S Y F A H σ δ → Run X.K X.mg S Y A σ W (ρD X.K) F (gChain f f' ga gb gc δ) Q → tChain r r' ta tb tc σ H Q := fun Y A σ H δ F Q Rl h => by
  refine qa _ _ _ _ _ _ _ Rl (Run.bind h fun x δ1 v H1 F1 e R1 s1 rx h1 => ?_)
  refine qb _ _ _ _ _ _ _ R1 (Run.bind h1 fun y δ2 u H2 F2 e2 R2 s2 ry h2 => ?_)
  cases ef : f x y with
  | none =>
    rw [ef] at h2
    exact h2.elim
  | some d =>
    rw [ef] at h2
    cases eb : dBool d with
    | none =>
      have h2' : Run X.K X.mg S Y A σ W (ρD X.K) F2 ((R.opt (dBool d) δ2).bind _) Q := h2
      rw [eb] at h2'
      exact h2'.elim
    | some k =>
      have h2' : Run X.K X.mg S Y A σ W (ρD X.K) F2 ((R.opt (dBool d) δ2).bind _) Q := h2
      rw [eb] at h2'
      refine hf _ _ _ _ _ _ _ _ _ _ _ _ R2 (rx.mono s2) ry ef fun w H3 F3 R3 s3 rw3 => ⟨k, rp_bool rw3 eb, ?_⟩
      cases k with
      | true =>
        refine iteT ?_
        have h3 : Run X.K X.mg S Y A σ W (ρD X.K) F3 ((gc δ2).bind fun z δ4 => R.opt (f' y z) δ4) Q := Run.weak h2' s3
        refine qc _ _ _ _ _ _ _ R3 (Run.bind h3 fun z δ4 u4 H4 F4 e4 R4 s4 rz h4 => ?_)
        obtain ⟨d', ed', q'⟩ := Run.opt h4
        exact hf' _ _ _ _ _ _ _ _ _ _ _ _ R4 ((ry.mono s3).mono s4) rz ed' q'
      | false =>
        refine iteF ?_
        exact h2' _ _ _ R3 s3 (.bl false)
theorem ev_chain {op op' : CmpOp} {r r' : R2} {f f' : D → D → Option D} (ho : OpR X (compareOp op) r) (ho' : OpR X (compareOp op') r') (hf : OpOk X S r f) (hf' : OpOk X S r' f') (ha : EV X S W a ga) (hb : EV X S W b gb) (hc : EV X S W c gc)
    (hm : lastMarks [op, op'] [b, c] = false := by with_unfolding_all rfl) : EV X S W (.Compare a [op, op'] [b, c] pos) (gChain f f' ga gb gc) := by
  obtain ⟨ta, pa, qa⟩ := ha
  obtain ⟨tb, pb, qb⟩ := hb
  obtain ⟨tc, pc, qc⟩ := hc
  exact ⟨_, pe_chain ho ho' pa pb pc hm, chain_run hf hf' qa qb qc⟩
theorem tv_chain {op op' : CmpOp} {r r' : R2} {f f' : D → D → Option D} (ho : OpR X (compareOp op) r) (ho' : OpR X (compareOp op') r') (hf : OpOk X S r f) (hf' : OpOk X S r' f') (ha : EV X S W a ga) (hb : EV X S W b gb) (hc : EV X S W c gc)
    (hm : lastMarks [op, op'] [b, c] = false := by with_unfolding_all rfl) : TV X S W (.Compare a [op, op'] [b, c] pos) (gT (gChain f f' ga gb gc)) := by
  obtain ⟨ta, pa, qa⟩ := ha
  obtain ⟨tb, pb, qb⟩ := hb
  obtain ⟨tc, pc, qc⟩ := hc
  exact ⟨_, pt_chain ho ho' pa pb pc hm, gT_run (chain_run hf hf' qa qb qc)⟩
/-! ### and, or, not, if else -/
variable {ta' tb' : SS → R Bool} {rest : List Expr}
def gAnd (ga gb : SS → R Bool) : SS → R Bool := fun δ => (ga δ).bind fun x δ1 => if x = true then gb δ1 else .ok false δ1
def gOr (ga gb : SS → R Bool) : SS → R Bool := fun δ => (ga δ).bind fun x δ1 => if x = true then .ok true δ1 else gb δ1
def gNot (ga : SS → R Bool) : SS → R Bool := fun δ => (ga δ).bind fun x δ1 => .ok (!x) δ1
theorem tw_and1 (h : TV X S W a ta') : TWV X S W (.BoolOp .And [a] pos) ta' := by
  obtain ⟨t, p, q⟩ := h
  exact ⟨t, pw_and1 p, q⟩
theorem tw_or1 (h : TV X S W a ta') : TWV X S W (.BoolOp .Or [a] pos) ta' := by
  obtain ⟨t, p, q⟩ := h
  exact ⟨t, pw_or1 p, q⟩
theorem tw_and (h : TV X S W a ta') (h2 : TWV X S W (.BoolOp .And (b :: rest) pos) tb') : TWV X S W (.BoolOp .And (a :: b :: rest) pos) (gAnd ta' tb') := by
  obtain ⟨t, p, q⟩ := h
  obtain ⟨t2, p2, q2⟩ := h2
  refine ⟨_, pw_and p p2, fun Y A σ H δ F Q Rl hr => q _ _ _ _ _ _ _ Rl (Run.bind hr fun x δ1 v H1 F1 _ R1 s1 e1 h1 => ?_)⟩
  have e1' : x = v := e1
  subst e1'
  cases x with
  | true => exact iteT (q2 _ _ _ _ _ _ _ R1 h1)
  | false => exact iteF (h1 _ _ _ R1 (Same.refl _) rfl)
theorem tw_or (h : TV X S W a ta') (h2 : TWV X S W (.BoolOp .Or (b :: rest) pos) tb') : TWV X S W (.BoolOp .Or (a :: b :: rest) pos) (gOr ta' tb') := by
  obtain ⟨t, p, q⟩ := h
  obtain ⟨t2, p2, q2⟩ := h2
  refine ⟨_, pw_or p p2, fun Y A σ H δ F Q Rl hr => q _ _ _ _ _ _ _ Rl (Run.bind hr fun x δ1 v H1 F1 _ R1 s1 e1 h1 => ?_)⟩
  have e1' : x = v := e1
  subst e1'
  cases x with
  | true => exact iteT (h1 _ _ _ R1 (Same.refl _) rfl)
  | false => exact iteF (q2 _ _ _ _ _ _ _ R1 h1)
theorem tv_w {g : SS → R Bool} (h : TWV X S W e g) : TV X S W e g := by
  obtain ⟨t, p, q⟩ := h
  exact ⟨t, p.pt, q⟩
theorem tv_not (h : TV X S W a ta') : TV X S W (.UnaryOp .Not a pos) (gNot ta') := by
  obtain ⟨t, p, q⟩ := h
  refine ⟨_, pt_not p, fun Y A σ H δ F Q Rl hr => q _ _ _ _ _ _ _ Rl (Run.bind hr fun x δ1 v H1 F1 _ R1 s1 e1 h1 => ?_)⟩
  have e1' : x = v := e1
  subst e1'
  exact h1 _ _ _ R1 (Same.refl _) rfl
def gAndV (ga gb : SS → R D) : SS → R D := fun δ => (gT ga δ).bind fun x δ1 => if x = true then gb δ1 else .ok (.bool false) δ1
def gOrV (ga gb : SS → R D) : SS → R D := fun δ => (gT ga δ).bind fun x δ1 => if x = true then .ok (.bool true) δ1 else gb δ1
def gNotV (ga : SS → R D) : SS → R D := fun δ => (gT ga δ).bind fun x δ1 => .ok (.bool (!x)) δ1
theorem ev_one {op : PySem.BoolOp} (h : EV X S W a ga) : EV X S W (.BoolOp op [a] pos) ga := by
  obtain ⟨t, p, q⟩ := h
  exact ⟨t, pe_one p, q⟩
theorem bnd_gT {g : SS → R D} {k : Bool → SS → R D} {δ : SS} : (gT g δ).bind k = (g δ).bind fun x δ1 => (R.opt (dBool x) δ1).bind k := by
  unfold gT
  cases g δ <;> rfl
theorem ev_and (h : EV X S W a ga) (h2 : EV X S W (.BoolOp .And (b :: rest) pos) gb) : EV X S W (.BoolOp .And (a :: b :: rest) pos) (gAndV ga gb) := by
  obtain ⟨t, p, q⟩ := h
  obtain ⟨t2, p2, q2⟩ := h2
  refine ⟨_, pe_and p p2, fun Y A σ H δ F Q Rl hr => ?_⟩
  unfold gAndV at hr
  rw [bnd_gT] at hr
  refine q _ _ _ _ _ _ _ Rl (Run.bind hr fun x δ1 v H1 F1 _ R1 s1 rx h1 => ?_)
  cases eb : dBool x with
  | none =>
    rw [eb] at h1
    exact h1.elim
  | some k =>
    rw [eb] at h1
    refine ⟨k, rp_bool rx eb, ?_⟩
    cases k with
    | true => exact iteT (q2 _ _ _ _ _ _ _ R1 h1)
    | false => exact iteF (h1 _ _ _ R1 (Same.refl _) (.bl false))
theorem ev_or (h : EV X S W a ga) (h2 : EV X S W (.BoolOp .Or (b :: rest) pos) gb) : EV X S W (.BoolOp .Or (a :: b :: rest) pos) (gOrV ga gb) := by
  obtain ⟨t, p, q⟩ := h
  obtain ⟨t2, p2, q2⟩ := h2
  refine ⟨_, pe_or p p2, fun Y A σ H δ F Q Rl hr => ?_⟩
  unfold gOrV at hr
  rw [bnd_gT] at hr
  refine q _ _ _ _ _ _ _ Rl (Run.bind hr fun x δ1 v H1 F1 _ R1 s1 rx h1 => ?_)
  cases eb : dBool x with
  | none =>
    rw [eb] at h1
    exact h1.elim
  | some k =>
    rw [eb] at h1
    refine ⟨k, rp_bool rx eb, ?_⟩
    cases k with
    | true => exact iteT (h1 _ _ _ R1 (Same.refl _) (.bl true))
    | false => exact iteF (q2 _ _ _ _ _ _ _ R1 h1)
theorem ev_not (h : EV X S W a ga) : EV X S W (.UnaryOp .Not a pos) (gNotV ga) := by
  obtain ⟨t, p, q⟩ := h
  refine ⟨_, pe_not p, fun Y A σ H δ F Q Rl hr => ?_⟩
  unfold gNotV at hr
  rw [bnd_gT] at hr
  refine q _ _ _ _ _ _ _ Rl (Run.bind hr fun x δ1 v H1 F1 _ R1 s1 rx h1 => ?_)
  cases eb : dBool x with
  | none =>
    rw [eb] at h1
    exact h1.elim
  | some k =>
    rw [eb] at h1
    exact ⟨k, rp_bool rx eb, h1 _ _ _ R1 (Same.refl _) (.bl _)⟩
def gIfE {α : Type} (gc : SS → R Bool) (ga gb : SS → R α) : SS → R α := fun δ => (gc δ).bind fun x δ1 => if x = true then ga δ1 else gb δ1
theorem ev_if {gt : SS → R Bool} (h : TV X S W c gt) (h1 : EV X S W a ga) (h2 : EV X S W b gb) : EV X S W (.IfExp c a b pos) (gIfE gt ga gb) := by
  obtain ⟨t, p, q⟩ := h
  obtain ⟨t1, p1, q1⟩ := h1
  obtain ⟨t2, p2, q2⟩ := h2
  refine ⟨_, pe_ifExp p p1 p2, fun Y A σ H δ F Q Rl hr => q _ _ _ _ _ _ _ Rl (Run.bind hr fun x δ1 v H1 F1 _ R1 s1 e1 h1 => ?_)⟩
  have e1' : x = v := e1
  subst e1'
  cases x with
  | true => exact iteT (q1 _ _ _ _ _ _ _ R1 h1)
  | false => exact iteF (q2 _ _ _ _ _ _ _ R1 h1)
theorem eo_if {gt : SS → R Bool} {ga gb : SS → R OC} (h : TV X S W c gt) (h1 : EO X S W a ga) (h2 : EO X S W b gb) : EO X S W (.IfExp c a b pos) (gIfE gt ga gb) := by
  obtain ⟨t, p, q⟩ := h
  obtain ⟨t1, p1, q1⟩ := h1
  obtain ⟨t2, p2, q2⟩ := h2
  refine ⟨_, pe_ifExp p p1 p2, fun Y A σ H δ F Q Rl hr => q _ _ _ _ _ _ _ Rl (Run.bind hr fun x δ1 v H1 F1 _ R1 s1 e1 h1 => ?_)⟩
  have e1' : x = v := e1
  subst e1'
  cases x with
  | true => exact iteT (q1 _ _ _ _ _ _ _ R1 h1)
  | false => exact iteF (q2 _ _ _ _ _ _ _ R1 h1)
/-! ### arguments, displays -/
def gNil : SS → R (List D) := fun δ => .ok [] δ
def gCons (g : SS → R D) (gs : SS → R (List D)) : SS → R (List D) := fun δ => (g δ).bind fun x δ1 => (gs δ1).bind fun xs δ2 => .ok (x :: xs) δ2
theorem av_nil : AV X S W [] gNil := ⟨_, pa_nil, fun Y A σ H δ F Q Rl h => h _ _ _ Rl (Same.refl _) .nil⟩
theorem av_cons {gs : SS → R (List D)} (h : EV X S W e ga) (h2 : AV X S W es gs) (hs : starEach (e :: es) X.env = (false, eval e X.env) :: starEach es X.env := by rfl) : AV X S W (e :: es) (gCons ga gs) := by
  obtain ⟨t, p, q⟩ := h
  obtain ⟨t2, p2, q2⟩ := h2
  refine ⟨_, pa_cons p p2 hs, fun Y A σ H δ F Q Rl hr => q _ _ _ _ _ _ _ Rl (Run.bind hr fun x δ1 v H1 F1 _ R1 s1 rx h1 => ?_)⟩
  refine q2 _ _ _ _ _ _ _ R1 (Run.bind h1 fun y δ2 u H2 F2 e2 R2 s2 ry h2 => ?_)
  exact h2 _ _ _ R2 (Same.refl _) (.cons (rx.mono s2) ry)
def fitL (xs : List D) : Option (List D) := if xs.length ≤ sizeLine then some xs else none
theorem fitL_some {xs ys : List D} (h : fitL xs = some ys) : xs.length ≤ sizeLine ∧ ys = xs := by
  unfold fitL at h
  split at h
  · rename_i hz
    exact ⟨hz, (Option.some.inj h).symm⟩
  · cases h
def gTup (gs : SS → R (List D)) : SS → R D := fun δ => (gs δ).bind fun xs δ1 => (R.opt (fitL xs) δ1).bind fun ys δ2 => .ok (.tuple ys) δ2
def gLst (gs : SS → R (List D)) : SS → R OC := fun δ => (gs δ).bind fun xs δ1 => (R.opt (fitL xs) δ1).bind fun ys δ2 => .ok (.l ys) δ2
theorem rp_tup_lay {Y : Dy} {A : Nat → Addr} {σ : L2.St} {H F : Hp} {δ : SS} {xs : List D} {vs : List V} {p : Addr} (Rl : Rel X.K S Y F A H σ δ) (r : Rps X.K F xs vs) (hp : H p = none) :
    Rel X.K S Y (upd F p (.tup vs)) A (upd H p (.tup vs)) σ δ ∧ Same F (upd F p (.tup vs)) ∧ Rp X.K (upd F p (.tup vs)) (.tuple xs) (.ref p) := by
  have hF := Rl.sub.free hp
  exact ⟨Rl.lay hp (fun _ z => nomatch z), same_upd hF, .tup (.inl (.inl upd_same)) (r.mono (same_upd hF))⟩
theorem rp_lst_new {Y : Dy} {A : Nat → Addr} {σ : L2.St} {H F : Hp} {δ : SS} {xs : List D} {vs : List V} {p : Addr} (Rl : Rel X.K S Y F A H σ δ) (r : Rps X.K F xs vs) (hp : H p = none) :
    Rel X.K S Y F A (upd H p (.lst vs)) σ δ ∧ ρO X.K S Y A F (upd H p (.lst vs)) δ (.l xs) (.ref p) := by
  have fr := Rl.fresh hp
  exact ⟨Rl.laid hp, p, _, rfl, upd_same, .l r, ⟨fr.f, fr.h0, fr.ne⟩⟩
theorem ev_tup {gs : SS → R (List D)} {k : Nat} (h : AV X S W es gs) : EV X S W (.Tuple es k pos) (gTup gs) := by
  obtain ⟨t, p, q⟩ := h
  refine ⟨_, pe_tup p, fun Y A σ H δ F Q Rl hr => q _ _ _ _ _ _ _ Rl (Run.bind hr fun xs δ1 vs H1 F1 _ R1 s1 rx h1 => ?_)⟩
  cases ef : fitL xs with
  | none =>
    rw [ef] at h1
    exact h1.elim
  | some ys =>
    rw [ef] at h1
    obtain ⟨hz, e⟩ := fitL_some ef
    subst e
    refine ⟨by rw [rx.length]; exact hz, fun p hp => ?_⟩
    obtain ⟨a1, a2, a3⟩ := rp_tup_lay R1 rx hp
    exact h1 _ _ _ a1 a2 a3
theorem eo_lst {gs : SS → R (List D)} (h : AV X S W es gs) : EO X S W (.List es pos) (gLst gs) := by
  obtain ⟨t, p, q⟩ := h
  refine ⟨_, pe_lst p, fun Y A σ H δ F Q Rl hr => q _ _ _ _ _ _ _ Rl (Run.bind hr fun xs δ1 vs H1 F1 _ R1 s1 rx h1 => ?_)⟩
  cases ef : fitL xs with
  | none =>
    rw [ef] at h1
    exact h1.elim
  | some ys =>
    rw [ef] at h1
    obtain ⟨hz, e⟩ := fitL_some ef
    subst e
    refine ⟨by rw [rx.length]; exact hz, fun p hp => ?_⟩
    obtain ⟨a1, a2⟩ := rp_lst_new R1 rx hp
    exact h1 _ _ _ a1 (Same.refl _) a2
end
end DL
set_option Elab.async false
set_option linter.all false
set_option maxRecDepth 100000
set_option maxHeartbeats 4000000
namespace DL
open PySem PySem.Spec PyProof.Rows L2
/-! ### data as the library reads it -/
section
variable {X : Cx} {pins : List (Addr × Obj)} {σ : L2.St} {F H : Hp} {s : Shared}
mutual
theorem rp_reads (I : Inv X pins σ H s) (e : Same F H) : ∀ (d : D) (v : V) (u : Value), Rp X.K F d v → RelV v u → d.plain = true → ∃ as, Reads s.heap u d as
  | .none, _, _, .non, r, _ => by
    cases r
    exact ⟨_, Reads.none⟩
  | .bool b, _, _, .bl _, r, _ => by
    cases r
    exact ⟨_, Reads.bool b⟩
  | .int i, _, _, .int _, r, _ => by
    obtain ⟨t, rfl⟩ := r
    exact ⟨_, Reads.int i t⟩
  | .str x, _, _, .str _, r, _ => by
    obtain ⟨t, rfl⟩ := r
    exact ⟨_, Reads.str x t⟩
  | .list ds, _, _, .lst h ha, r, hp => by
    cases r
    obtain ⟨its, rv, ⟨o, n, ho, hc, _, hd⟩, _⟩ := I.list (.inl (.inl (e _ _ h)))
    obtain ⟨as, hr⟩ := rps_reads I e ds _ its ha rv (by simpa [PyData.plain] using hp)
    exact ⟨_, Reads.list ho hc hd hr⟩
  | .tuple ds, _, _, .tup h ha, r, hp => by
    cases r
    obtain ⟨its, rv, ⟨o, ho, hc, n, hd⟩, _⟩ := I.tuple (sqt_same e h)
    obtain ⟨as, hr⟩ := rps_reads I e ds _ its ha rv (by simpa [PyData.plain] using hp)
    exact ⟨_, Reads.tuple ho hc hd hr⟩
  | .dict _, _, _, _, _, hp => by
    simp [PyData.plain] at hp
theorem rps_reads (I : Inv X pins σ H s) (e : Same F H) : ∀ (ds : List D) (vs : List V) (us : List Value), Rps X.K F ds vs → Vals vs us → PyData.plainAll ds = true → ∃ as, ReadsAll s.heap us ds as
  | [], _, _, .nil, r, _ => by
    cases r
    exact ⟨_, ReadsAll.nil⟩
  | d :: ds, _, _, .cons h1 h2, r, hp => by
    cases r with
    | cons r1 r2 =>
      have hp' : d.plain = true ∧ PyData.plainAll ds = true := by simpa [PyData.plainAll] using hp
      obtain ⟨as, q1⟩ := rp_reads I e d _ _ h1 r1 hp'.1
      obtain ⟨bs, q2⟩ := rps_reads I e ds _ _ h2 r2 hp'.2
      exact ⟨_, ReadsAll.cons q1 q2⟩
end
end
/-! ### what can be read now: a datum, or an object that is nobody's yet or a slot's -/
def RdP (K : Frg) (F H : Hp) (d : D) (v : V) : Prop := Rp K F d v ∨ ∃ a o c, v = .ref a ∧ H a = some o ∧ OR K F c o ∧ d = c.toD
theorem RdP.view {K : Frg} {F H : Hp} {d : D} {v : V} (h : RdP K F H d v) (e : Same F H) : ∃ G, Same F G ∧ Same G H ∧ Rp K G d v := by
  rcases h with h | ⟨a, o, c, rfl, h1, h2, rfl⟩
  · exact ⟨F, Same.refl F, e, h⟩
  · have k1 : Same F (upd F a o) := fun b u q => by
      by_cases hb : b = a
      · rw [hb] at q ⊢
        rw [upd_same, ← h1]
        exact e a u q
      · rw [upd_ne hb]
        exact q
    refine ⟨upd F a o, k1, fun b u q => ?_, (h2.mono k1).rp upd_same⟩
    by_cases hb : b = a
    · rw [hb, upd_same] at q
      rw [hb, h1, q]
    · rw [upd_ne hb] at q
      exact e b u q
theorem RdP.list {K : Frg} {F H : Hp} {ds : List D} {v : V} (h : RdP K F H (.list ds) v) (e : Same F H) : ∃ a vs, v = .ref a ∧ H a = some (.lst vs) ∧ Rps K F ds vs := by
  rcases h with h | ⟨a, o, c, rfl, h1, h2, h3⟩
  · cases h with
    | lst h r => exact ⟨_, _, rfl, e _ _ h, r⟩
  · cases h2 with
    | l r =>
      simp only [OC.toD, PyData.list.injEq] at h3
      subst h3
      exact ⟨a, _, rfl, h1, r⟩
    | m r => simp [OC.toD] at h3
theorem RdP.tuple {K : Frg} {F H : Hp} {ds : List D} {v : V} (h : RdP K F H (.tuple ds) v) : ∃ a vs, v = .ref a ∧ SqT K F a vs ∧ Rps K F ds vs := by
  rcases h with h | ⟨a, o, c, rfl, h1, h2, h3⟩
  · cases h with
    | tup h r => exact ⟨_, _, rfl, h, r⟩
  · cases h2 <;> simp [OC.toD] at h3
/-- a sequence's items -/
def dSeq : D → Option (List D)
  | .list xs => some xs
  | .tuple xs => some xs
  | _ => none
theorem RdP.seq {K : Frg} {F H : Hp} {d : D} {ds : List D} {v : V} (h : RdP K F H d v) (e : Same F H) (hs : dSeq d = some ds) : ∃ a vs, v = .ref a ∧ (SqL K H a vs ∨ SqT K H a vs) ∧ Rps K F ds vs := by
  cases d <;> simp [dSeq] at hs
  · subst hs
    obtain ⟨a, vs, h1, h2, h3⟩ := h.list e
    exact ⟨a, vs, h1, .inl (.inl (.inl h2)), h3⟩
  · subst hs
    obtain ⟨a, vs, h1, h2, h3⟩ := h.tuple
    exact ⟨a, vs, h1, .inr (sqt_same e h2), h3⟩
abbrev ρP (K : Frg) : Hp → Hp → SS → D → V → Prop := fun F' H' _ d v => RdP K F' H' d v
/-- the expression e can be read as the datum that g tells, at once -/
def EP (X : Cx) (S : Sx) (W : WX) (e : Expr) (g : SS → R D) : Prop :=
  ∃ t, PE X e t ∧ ∀ Y A σ H δ F Q, Rel X.K S Y F A H σ δ → Run X.K X.mg S Y A σ W (ρP X.K) F (g δ) Q → t σ H Q
section
variable {X : Cx} {S : Sx} {W : WX} {a b e : Expr} {es : List Expr} {pos : Pos} {ga gb : SS → R D}
theorem ep_of (h : EV X S W e ga) : EP X S W e ga := by
  obtain ⟨t, p, q⟩ := h
  refine ⟨t, p, fun Y A σ H δ F Q Rl hr => q _ _ _ _ _ _ _ Rl ?_⟩
  cases hg : ga δ with
  | bad =>
    rw [hg] at hr
    exact hr
  | ok d δ' =>
    rw [hg] at hr
    exact fun b H' F' R' s' r => hr b H' F' R' s' (.inl r)
  | ex c f x δ' =>
    rw [hg] at hr
    exact hr
theorem ep_new {g : SS → R OC} (h : EO X S W e g) : EP X S W e (gD g) := by
  obtain ⟨t, p, q⟩ := h
  refine ⟨t, p, fun Y A σ H δ F Q Rl hr => q _ _ _ _ _ _ _ Rl ?_⟩
  cases hg : g δ with
  | bad =>
    unfold gD at hr
    rw [hg] at hr
    exact hr
  | ok d δ' =>
    unfold gD at hr
    rw [hg] at hr
    exact fun b H' F' R' s' ⟨p, o, e1, e2, r, fr⟩ => hr b H' F' R' s' (.inr ⟨p, o, d, e1, e2, r, rfl⟩)
  | ex c f x δ' =>
    unfold gD at hr
    rw [hg] at hr
    exact hr
/-- an own object by its name -/
def gOwn (i : Nat) : SS → R D := fun δ => match δ[i]? with
  | some (some (.o c)) => .ok c.toD δ
  | _ => .bad
theorem ep_own (i : Nat) {x : Str} (hN : X.N[i]? = some x := by rfl) (hv : Vis X.env.scope x := by first | exact Or.inl rfl | exact Or.inr (Or.inl rfl) | exact Or.inr (Or.inr rfl)) (hd : (x == ("__debug__" : Str)) = false := by decide)
    (hcd : (x == ("__classdict__" : Str)) = false := by decide) : EP X S W (.Name x pos) (gOwn i) := by
  refine ⟨_, pe_var hN hv hd hcd, fun Y A σ H δ F Q Rl h => ?_⟩
  show ∃ v, σ[i]? = some (some v) ∧ Q v H
  unfold gOwn at h
  split at h
  · rename_i c e
    obtain ⟨o, h1, h2, h3⟩ := Rl.own_at e
    exact ⟨_, h1, opt_run h Rl (.inr ⟨_, o, c, rfl, h2, h3, rfl⟩)⟩
  · exact h.elim
/-- two places, the right one read at once -/
def OpRd (X : Cx) (S : Sx) (r : R2) (f : D → D → Option D) : Prop := ∀ Y A σ H δ F v u x y d Q, Rel X.K S Y F A H σ δ → RdP X.K F H x v → RdP X.K F H y u → f x y = some d →
  (∀ w, Rp X.K F d w → Q w H) → r v u H Q
theorem OpRd.ok {r : R2} {f : D → D → Option D} (h : OpRd X S r f) : OpOk X S r f := fun Y A σ H δ F v u x y d Q Rl rx ry e q =>
  h _ _ _ _ _ _ _ _ _ _ _ _ Rl (.inl rx) (.inl ry) e fun w rw' => q w H F Rl (Same.refl F) rw'
theorem opR_run {r : R2} {f : D → D → Option D} {ta tb : TE} (hf : OpRd X S r f)
    (qa : ∀ Y A σ H δ F Q, Rel X.K S Y F A H σ δ → Run X.K X.mg S Y A σ W (ρD X.K) F (ga δ) Q → ta σ H Q) (qb : ∀ Y A σ H δ F Q, Rel X.K S Y F A H σ δ → Run X.K X.mg S Y A σ W (ρP X.K) F (gb δ) Q → tb σ H Q) :
    ∀ Y A σ H δ F Q, Rel X.K S Y F A H σ δ → Run X.K X.mg S Y A σ W (ρD X.K) F (gOp f ga gb δ) Q → tOp r ta tb σ H Q := fun Y A σ H δ F Q Rl h => by
  refine qa _ _ _ _ _ _ _ Rl (Run.bind h fun x δ1 v H1 F1 e R1 s1 rx h1 => ?_)
  refine qb _ _ _ _ _ _ _ R1 (Run.bind h1 fun y δ2 u H2 F2 e2 R2 s2 ry h2 => ?_)
  obtain ⟨d, ed, q⟩ := Run.opt h2
  exact hf _ _ _ _ _ _ _ _ _ _ _ _ R2 (.inl (rx.mono s2)) ry ed fun w rw' => q w _ _ R2 (Same.refl _) rw'
theorem ev_cmpR {op : CmpOp} {r : R2} {f : D → D → Option D} (ho : OpR X (compareOp op) r) (hf : OpRd X S r f) (ha : EV X S W a ga) (hb : EP X S W b gb) (hm : behindInMarks op b = false := by first | exact nomark _ | rfl) : EV X S W (.Compare a [op] [b] pos) (gOp f ga gb) := by
  obtain ⟨ta, pa, qa⟩ := ha
  obtain ⟨tb, pb, qb⟩ := hb
  exact ⟨_, pe_cmpR ho pa pb hm, opR_run hf qa qb⟩
theorem tv_cmpR {op : CmpOp} {r : R2} {f : D → D → Option D} (ho : OpR X (compareOp op) r) (hf : OpRd X S r f) (ha : EV X S W a ga) (hb : EP X S W b gb) (hm : behindInMarks op b = false := by first | exact nomark _ | rfl) : TV X S W (.Compare a [op] [b] pos) (gT (gOp f ga gb)) := by
  obtain ⟨ta, pa, qa⟩ := ha
  obtain ⟨tb, pb, qb⟩ := hb
  exact ⟨_, pt_cmpR ho pa pb hm, gT_run (opR_run hf qa qb)⟩
/-- the left one an own object's name -/
def gOpO (f : D → D → Option D) (i : Nat) (gb : SS → R D) : SS → R D := fun δ => (gb δ).bind fun y δ2 => (gOwn i δ2).bind fun x _ => R.opt (f x y) δ2
theorem opO_run {r : R2} {f : D → D → Option D} {i : Nat} {tb : TE} (hf : OpRd X S r f)
    (qb : ∀ Y A σ H δ F Q, Rel X.K S Y F A H σ δ → Run X.K X.mg S Y A σ W (ρD X.K) F (gb δ) Q → tb σ H Q) :
    ∀ Y A σ H δ F Q, Rel X.K S Y F A H σ δ → Run X.K X.mg S Y A σ W (ρD X.K) F (match δ[i]? with | some (some (.o _)) => gOpO f i gb δ | _ => .bad) Q → tOp r (tVar i) tb σ H Q := fun Y A σ H δ F Q Rl h => by
  split at h
  · rename_i c e
    obtain ⟨o, h1, h2, h3⟩ := Rl.own_at e
    refine ⟨_, h1, ?_⟩
    refine qb _ _ _ _ _ _ _ Rl (Run.bind h fun y δ2 u H2 F2 e2 R2 s2 ry h2 => ?_)
    unfold gOwn at h2
    split at h2
    · rename_i c2 e3
      obtain ⟨o2, g1, g2, g3⟩ := R2.own_at e3
      obtain ⟨d, ed, q⟩ := Run.opt (show Run X.K X.mg S Y A σ W (ρD X.K) F2 (R.opt (f c2.toD y) δ2) Q from h2)
      exact hf _ _ _ _ _ _ _ _ _ _ _ _ R2 (.inr ⟨_, o2, c2, rfl, g2, g3, rfl⟩) (.inl ry) ed fun w rw' => q w _ _ R2 (Same.refl _) rw'
    · exact h2.elim
  · exact h.elim
def gOpL (f : D → D → Option D) (i : Nat) (gb : SS → R D) : SS → R D := fun δ => match δ[i]? with | some (some (.o _)) => gOpO f i gb δ | _ => .bad
theorem ev_cmpO {op : CmpOp} {r : R2} {f : D → D → Option D} (i : Nat) {x : Str} {p : Pos} (ho : OpR X (compareOp op) r) (hf : OpRd X S r f) (hb : EV X S W b gb) (hm : behindInMarks op b = false := by first | exact nomark _ | rfl) (hN : X.N[i]? = some x := by rfl) (hv : Vis X.env.scope x := by first | exact Or.inl rfl | exact Or.inr (Or.inl rfl) | exact Or.inr (Or.inr rfl)) (hd : (x == ("__debug__" : Str)) = false := by decide)
    (hcd : (x == ("__classdict__" : Str)) = false := by decide) : EV X S W (.Compare (.Name x p) [op] [b] pos) (gOpL f i gb) := by
  obtain ⟨tb, pb, qb⟩ := hb
  exact ⟨_, pe_cmpR ho (pe_var hN hv hd hcd) pb hm, opO_run hf qb⟩
theorem tv_cmpO {op : CmpOp} {r : R2} {f : D → D → Option D} (i : Nat) {x : Str} {p : Pos} (ho : OpR X (compareOp op) r) (hf : OpRd X S r f) (hb : EV X S W b gb) (hm : behindInMarks op b = false := by first | exact nomark _ | rfl) (hN : X.N[i]? = some x := by rfl) (hv : Vis X.env.scope x := by first | exact Or.inl rfl | exact Or.inr (Or.inl rfl) | exact Or.inr (Or.inr rfl)) (hd : (x == ("__debug__" : Str)) = false := by decide)
    (hcd : (x == ("__classdict__" : Str)) = false := by decide) : TV X S W (.Compare (.Name x p) [op] [b] pos) (gT (gOpL f i gb)) := by
  obtain ⟨tb, pb, qb⟩ := hb
  exact ⟨_, pt_cmpR ho (pe_var hN hv hd hcd) pb hm, gT_run (opO_run hf qb)⟩
/-! ### the operators' answers -/
def fI (g : Int → Int → Option D) : D → D → Option D
  | .int i, .int j => g i j
  | _, _ => none
theorem rd_int {K : Frg} {F H : Hp} {i : Int} {v : V} (h : RdP K F H (.int i) v) : v = .int i := by
  rcases h with h | ⟨_, _, c, _, _, _, e⟩
  · cases h
    rfl
  · cases c <;> simp [OC.toD] at e
theorem rd_str {K : Frg} {F H : Hp} {i : Str} {v : V} (h : RdP K F H (.str i) v) : v = .str i := by
  rcases h with h | ⟨_, _, c, _, _, _, e⟩
  · cases h
    rfl
  · cases c <;> simp [OC.toD] at e
theorem rd_bl {K : Frg} {F H : Hp} {i : Bool} {v : V} (h : RdP K F H (.bool i) v) : v = .bl i := by
  rcases h with h | ⟨_, _, c, _, _, _, e⟩
  · cases h
    rfl
  · cases c <;> simp [OC.toD] at e
def isNoneD : D → Bool
  | .none => true
  | _ => false
theorem rd_non {K : Frg} {F H : Hp} {d : D} {v : V} (h : RdP K F H d v) : decide (v = .non) = isNoneD d := by
  rcases h with h | ⟨_, _, c, rfl, _, _, rfl⟩
  · cases h <;> rfl
  · cases c <;> rfl
theorem fI_some {g : Int → Int → Option D} {x y d : D} (h : fI g x y = some d) : ∃ i j, x = .int i ∧ y = .int j ∧ g i j = some d := by
  cases x <;> cases y <;> simp [fI] at h
  exact ⟨_, _, rfl, rfl, h⟩
theorem rd_i0 {g : Int → Int → V} {f : Int → Int → Option D} (h : ∀ K F i j d, f i j = some d → Rp K F d (g i j)) : OpRd X S (rI0 g) (fI f) := fun Y A σ H δ F v u x y d Q Rl rx ry e q => by
  obtain ⟨i, j, rfl, rfl, e'⟩ := fI_some e
  exact ⟨i, j, rd_int rx, rd_int ry, q _ (h _ _ _ _ _ e')⟩
theorem rd_i {C : Int → Int → Prop} {g : Int → Int → V} {f : Int → Int → Option D} (h : ∀ K F i j d, f i j = some d → C i j ∧ Rp K F d (g i j)) : OpRd X S (rI C g) (fI f) := fun Y A σ H δ F v u x y d Q Rl rx ry e q => by
  obtain ⟨i, j, rfl, rfl, e'⟩ := fI_some e
  obtain ⟨h1, h2⟩ := h X.K F _ _ _ e'
  exact ⟨i, j, rd_int rx, rd_int ry, h1, q _ h2⟩
def dSub : D → D → Option D := fI fun i j => some (.int (i - j))
theorem rd_sub : OpRd X S (rI0 fun i j => .int (i - j)) dSub := rd_i0 fun _ _ i j d h => by
  cases h
  exact .int _
def dDiv : D → D → Option D := fI fun i j => if 0 < j ∧ j < 1073741824 then some (.int (i / j)) else none
theorem rd_div : OpRd X S (rI CDiv fun i j => .int (i / j)) dDiv := rd_i fun _ _ i j d h => by
  split at h
  · rename_i hc
    cases h
    exact ⟨hc, .int _⟩
  · cases h
def dMod : D → D → Option D := fI fun i j => if 0 < j then some (.int (i % j)) else none
theorem rd_mod : OpRd X S (rI (fun _ j => 0 < j) fun i j => .int (i % j)) dMod := rd_i fun _ _ i j d h => by
  split at h
  · rename_i hc
    cases h
    exact ⟨hc, .int _⟩
  · cases h
def dPow : D → D → Option D := fI fun i j => if 0 ≤ j ∧ j ≤ 1000000 ∧ i.natAbs < 2 ^ 64 then some (.int (i ^ j.toNat)) else none
theorem rd_pow : OpRd X S (rI CPow fun i j => .int (i ^ j.toNat)) dPow := rd_i fun _ _ i j d h => by
  split at h
  · rename_i hc
    cases h
    exact ⟨hc, .int _⟩
  · cases h
/-! order: ints, texts, alike tuples and lists -/
def ordB (x y : D) : Bool := PySem.W.alike x y && x.plain && y.plain && decide (x.depth ≤ 64) && (match x with | .none => false | _ => true)
def rOrd (K : Frg) (f : D → D → Bool) : R2 := fun v u H Q => ∃ (F : Hp) (x y : D), Same F H ∧ Rp K F x v ∧ Rp K F y u ∧ ordB x y = true ∧ Q (.bl (f x y)) H
theorem ord_facts {x y : D} (h : ordB x y = true) : PySem.W.alike x y = true ∧ x.plain = true ∧ y.plain = true ∧ x.depth ≤ 64 ∧ x ≠ .none := by
  unfold ordB at h
  simp only [Bool.and_eq_true, decide_eq_true_eq] at h
  obtain ⟨⟨⟨⟨h1, h2⟩, h3⟩, h4⟩, h5⟩ := h
  refine ⟨h1, h2, h3, h4, fun e => ?_⟩
  subst e
  cases h5
theorem op_ltD (hu : X.A.units + 64 < cLine) : OpR X (compareOp .Lt) (rOrd X.K PySem.W.dataLt) := by
  intro pins s σ H x y v u Q I rx ry h
  obtain ⟨F, d, e, k, r1, r2, ho, q⟩ := h
  obtain ⟨h1, h2, h3, h4, h5⟩ := ord_facts ho
  obtain ⟨as, q1⟩ := rp_reads I k d x v r1 rx h2
  obtain ⟨bs, q2⟩ := rp_reads I k e y u r2 ry h3
  exact PySem.W.lt_data q1 q2 h1 h5 (by have := Nat.min_le_left d.depth e.depth; omega) ⟨.bl _, H, I, rfl, q⟩
theorem op_gtD (hu : X.A.units + 64 < cLine) : OpR X (compareOp .Gt) (rOrd X.K fun x y => PySem.W.dataLt y x) := by
  intro pins s σ H x y v u Q I rx ry h
  obtain ⟨F, d, e, k, r1, r2, ho, q⟩ := h
  obtain ⟨h1, h2, h3, h4, h5⟩ := ord_facts ho
  obtain ⟨as, q1⟩ := rp_reads I k d x v r1 rx h2
  obtain ⟨bs, q2⟩ := rp_reads I k e y u r2 ry h3
  exact PySem.W.gt_data q1 q2 h1 h5 (by have := Nat.min_le_left d.depth e.depth; omega) ⟨.bl _, H, I, rfl, q⟩
theorem op_leD (hu : X.A.units + 64 < cLine) : OpR X (compareOp .LtE) (rOrd X.K fun x y => !PySem.W.dataLt y x) := by
  intro pins s σ H x y v u Q I rx ry h
  obtain ⟨F, d, e, k, r1, r2, ho, q⟩ := h
  obtain ⟨h1, h2, h3, h4, h5⟩ := ord_facts ho
  obtain ⟨as, q1⟩ := rp_reads I k d x v r1 rx h2
  obtain ⟨bs, q2⟩ := rp_reads I k e y u r2 ry h3
  exact PySem.W.le_data q1 q2 h1 h5 (by have := Nat.min_le_left d.depth e.depth; omega) ⟨.bl _, H, I, rfl, q⟩
theorem op_geD (hu : X.A.units + 64 < cLine) : OpR X (compareOp .GtE) (rOrd X.K fun x y => !PySem.W.dataLt x y) := by
  intro pins s σ H x y v u Q I rx ry h
  obtain ⟨F, d, e, k, r1, r2, ho, q⟩ := h
  obtain ⟨h1, h2, h3, h4, h5⟩ := ord_facts ho
  obtain ⟨as, q1⟩ := rp_reads I k d x v r1 rx h2
  obtain ⟨bs, q2⟩ := rp_reads I k e y u r2 ry h3
  exact PySem.W.ge_data q1 q2 h1 h5 (by have := Nat.min_le_left d.depth e.depth; omega) ⟨.bl _, H, I, rfl, q⟩
def dOrd (f : D → D → Bool) : D → D → Option D := fun x y => if ordB x y = true then some (.bool (f x y)) else none
theorem view2 {K : Frg} {F H : Hp} {x y : D} {v u : V} (rx : RdP K F H x v) (ry : RdP K F H y u) (e : Same F H) : ∃ G, Same G H ∧ Rp K G x v ∧ Rp K G y u := by
  obtain ⟨G1, a1, a2, a3⟩ := rx.view e
  have ry' : RdP K G1 H y u := by
    rcases ry with h | ⟨a, o, c, e1, e2, e3, e4⟩
    · exact .inl (h.mono a1)
    · exact .inr ⟨a, o, c, e1, e2, e3.mono a1, e4⟩
  obtain ⟨G2, b1, b2, b3⟩ := ry'.view a2
  exact ⟨G2, b2, a3.mono b1, b3⟩
theorem rd_ord {f : D → D → Bool} : OpRd X S (rOrd X.K f) (dOrd f) := fun Y A σ H δ F v u x y d Q Rl rx ry e q => by
  unfold dOrd at e
  split at e
  · rename_i ho
    cases e
    obtain ⟨G, b1, b2, b3⟩ := view2 rx ry Rl.sub
    exact ⟨G, x, y, b1, b2, b3, ho, q _ (.bl _)⟩
  · cases e
abbrev dLt : D → D → Option D := dOrd PySem.W.dataLt
abbrev dGt : D → D → Option D := dOrd fun x y => PySem.W.dataLt y x
abbrev dLe : D → D → Option D := dOrd fun x y => !PySem.W.dataLt y x
abbrev dGe : D → D → Option D := dOrd fun x y => !PySem.W.dataLt x y
/-! == and != -/
def eqB (x y : D) : Bool := x.plain && y.plain && decide (x.depth ≤ 64)
def rEqP (K : Frg) (f : D → D → Bool) : R2 := fun v u H Q => ∃ (F : Hp) (x y : D), Same F H ∧ Rp K F x v ∧ Rp K F y u ∧ eqB x y = true ∧ Q (.bl (f x y)) H
theorem eq_facts {x y : D} (h : eqB x y = true) : x.plain = true ∧ y.plain = true ∧ x.depth ≤ 64 := by
  unfold eqB at h
  simp only [Bool.and_eq_true, decide_eq_true_eq] at h
  exact ⟨h.1.1, h.1.2, h.2⟩
theorem op_eqP (hu : X.A.units + 64 < cLine) : OpR X (compareOp .Eq) (rEqP X.K PyData.eqv) := by
  intro pins s σ H x y v u Q I rx ry h
  obtain ⟨F, d, e, k, r1, r2, ho, q⟩ := h
  obtain ⟨h1, h2, h3⟩ := eq_facts ho
  obtain ⟨as, q1⟩ := rp_reads I k d x v r1 rx h1
  obtain ⟨bs, q2⟩ := rp_reads I k e y u r2 ry h2
  exact PySem.SeqAt.eq_plain q1 q2 h1 h2 (by have := Nat.min_le_left d.depth e.depth; omega) ⟨.bl _, H, I, rfl, q⟩
theorem op_neP (hu : X.A.units + 64 < cLine) : OpR X (compareOp .NotEq) (rEqP X.K fun x y => !PyData.eqv x y) := by
  intro pins s σ H x y v u Q I rx ry h
  obtain ⟨F, d, e, k, r1, r2, ho, q⟩ := h
  obtain ⟨h1, h2, h3⟩ := eq_facts ho
  obtain ⟨as, q1⟩ := rp_reads I k d x v r1 rx h1
  obtain ⟨bs, q2⟩ := rp_reads I k e y u r2 ry h2
  exact PySem.SeqAt.ne_plain q1 q2 h1 h2 (by have := Nat.min_le_left d.depth e.depth; omega) ⟨.bl _, H, I, rfl, q⟩
def dEqF (f : D → D → Bool) : D → D → Option D := fun x y => if eqB x y = true then some (.bool (f x y)) else none
theorem rd_eq {f : D → D → Bool} : OpRd X S (rEqP X.K f) (dEqF f) := fun Y A σ H δ F v u x y d Q Rl rx ry e q => by
  unfold dEqF at e
  split at e
  · rename_i ho
    cases e
    obtain ⟨G, b1, b2, b3⟩ := view2 rx ry Rl.sub
    exact ⟨G, x, y, b1, b2, b3, ho, q _ (.bl _)⟩
  · cases e
abbrev dEq : D → D → Option D := dEqF PyData.eqv
abbrev dNe : D → D → Option D := dEqF fun x y => !PyData.eqv x y
/-! in, not in -/
def inB (x y : D) : Bool := x.plain && y.plain && decide (y.depth ≤ 60) && (match y with | .list _ => true | .tuple _ => true | _ => false)
def rInP (K : Frg) (f : D → D → Bool) : R2 := fun v u H Q => ∃ (F : Hp) (x y : D), Same F H ∧ Rp K F x v ∧ Rp K F y u ∧ inB x y = true ∧ Q (.bl (f x y)) H
def isIn (x y : D) : Bool := match dSeq y with
  | some ds => ds.any fun z => PyData.eqv z x
  | none => false
theorem op_inP (hu : X.A.units + 64 < cLine) : OpR X (compareOp .In) (rInP X.K isIn) := by
  intro pins s σ H x y v u Q I rx ry h
  obtain ⟨F, d, e, k, r1, r2, ho, q⟩ := h
  unfold inB at ho
  simp only [Bool.and_eq_true, decide_eq_true_eq] at ho
  obtain ⟨⟨⟨h1, h2⟩, h3⟩, h4⟩ := ho
  obtain ⟨as, q1⟩ := rp_reads I k d x v r1 rx h1
  obtain ⟨bs, q2⟩ := rp_reads I k e y u r2 ry h2
  cases e with
  | list ds =>
    have hd : PyData.depthAll ds + 1 ≤ 60 := by simpa [PyData.depth] using h3
    exact PySem.SeqAt.in_list_data q2 q1 (by simpa [PyData.plain] using h2) h1 (by have := Nat.min_le_left (PyData.depthAll ds) d.depth; omega) ⟨.bl _, H, I, rfl, q⟩
  | tuple ds =>
    have hd : PyData.depthAll ds + 1 ≤ 60 := by simpa [PyData.depth] using h3
    exact PySem.SeqAt.in_tuple_data q2 q1 (by simpa [PyData.plain] using h2) h1 (by have := Nat.min_le_left (PyData.depthAll ds) d.depth; omega) ⟨.bl _, H, I, rfl, q⟩
  | _ => cases h4
theorem op_notInP (hu : X.A.units + 64 < cLine) : OpR X (compareOp .NotIn) (rInP X.K fun x y => !isIn x y) := by
  intro pins s σ H x y v u Q I rx ry h
  obtain ⟨F, d, e, k, r1, r2, ho, q⟩ := h
  unfold inB at ho
  simp only [Bool.and_eq_true, decide_eq_true_eq] at ho
  obtain ⟨⟨⟨h1, h2⟩, h3⟩, h4⟩ := ho
  obtain ⟨as, q1⟩ := rp_reads I k d x v r1 rx h1
  obtain ⟨bs, q2⟩ := rp_reads I k e y u r2 ry h2
  cases e with
  | list ds =>
    have hd : PyData.depthAll ds + 1 ≤ 60 := by simpa [PyData.depth] using h3
    exact PySem.SeqAt.notIn_list_data q2 q1 (by simpa [PyData.plain] using h2) h1 (by have := Nat.min_le_left (PyData.depthAll ds) d.depth; omega) ⟨.bl _, H, I, rfl, q⟩
  | tuple ds =>
    have hd : PyData.depthAll ds + 1 ≤ 60 := by simpa [PyData.depth] using h3
    exact PySem.SeqAt.notIn_tuple_data q2 q1 (by simpa [PyData.plain] using h2) h1 (by have := Nat.min_le_left (PyData.depthAll ds) d.depth; omega) ⟨.bl _, H, I, rfl, q⟩
  | _ => cases h4
def dInF (f : D → D → Bool) : D → D → Option D := fun x y => if inB x y = true then some (.bool (f x y)) else none
theorem rd_in {f : D → D → Bool} : OpRd X S (rInP X.K f) (dInF f) := fun Y A σ H δ F v u x y d Q Rl rx ry e q => by
  unfold dInF at e
  split at e
  · rename_i ho
    cases e
    obtain ⟨G, b1, b2, b3⟩ := view2 rx ry Rl.sub
    exact ⟨G, x, y, b1, b2, b3, ho, q _ (.bl _)⟩
  · cases e
abbrev dIn : D → D → Option D := dInF isIn
abbrev dNotIn : D → D → Option D := dInF fun x y => !isIn x y
/-! is None, is True -/
def dIsN : D → D → Option D
  | x, .none => some (.bool (isNoneD x))
  | _, _ => none
def dNotN : D → D → Option D
  | x, .none => some (.bool (!isNoneD x))
  | _, _ => none
theorem rd_none {K : Frg} {F H : Hp} {v : V} (h : RdP K F H .none v) : v = .non := by
  rcases h with h | ⟨_, _, c, _, _, _, e⟩
  · cases h
    rfl
  · cases c <;> simp [OC.toD] at e
theorem rd_isN : OpRd X S (fun x y H Q => y = .non ∧ Q (.bl (decide (x = .non))) H) dIsN := fun Y A σ H δ F v u x y d Q Rl rx ry e q => by
  cases y <;> simp [dIsN] at e
  subst e
  refine ⟨rd_none ry, ?_⟩
  rw [rd_non rx]
  exact q _ (.bl _)
theorem rd_notN : OpRd X S (fun x y H Q => y = .non ∧ Q (.bl (!decide (x = .non))) H) dNotN := fun Y A σ H δ F v u x y d Q Rl rx ry e q => by
  cases y <;> simp [dNotN] at e
  subst e
  refine ⟨rd_none ry, ?_⟩
  rw [rd_non rx]
  exact q _ (.bl _)
def dIsB : D → D → Option D
  | .bool x, .bool y => some (.bool (decide (x = y)))
  | _, _ => none
def dNotB : D → D → Option D
  | .bool x, .bool y => some (.bool (!decide (x = y)))
  | _, _ => none
theorem rd_isB : OpRd X S rIsB dIsB := fun Y A σ H δ F v u x y d Q Rl rx ry e q => by
  cases x <;> cases y <;> simp [dIsB] at e
  subst e
  exact ⟨_, _, rd_bl rx, rd_bl ry, q _ (.bl _)⟩
theorem rd_notB : OpRd X S rNotB dNotB := fun Y A σ H δ F v u x y d Q Rl rx ry e q => by
  cases x <;> cases y <;> simp [dNotB] at e
  subst e
  exact ⟨_, _, rd_bl rx, rd_bl ry, q _ (.bl _)⟩
/-! ### +, * -/
def rAddD (K : Frg) : R2 := fun x y H Q => (∃ i j, x = .int i ∧ y = .int j ∧ Q (.int (i + j)) H) ∨ (∃ i j, x = .str i ∧ y = .str j ∧ i.length + j.length ≤ sizeLine ∧ Q (.str (i ++ j)) H) ∨ rCatA K x y H Q ∨ rCat x y H Q
theorem op_addD : OpR X (binaryOp .Add) (rAddD X.K) := OpR.or op_add (OpR.or op_add_str (OpR.or op_catA op_cat))
def dAdd : D → D → Option D
  | .int i, .int j => some (.int (i + j))
  | .str i, .str j => if i.length + j.length ≤ sizeLine then some (.str (i ++ j)) else none
  | .tuple xs, .tuple ys => if xs.length + ys.length ≤ sizeLine then some (.tuple (xs ++ ys)) else none
  | .list xs, .list ys => if xs.length + ys.length ≤ sizeLine then some (.list (xs ++ ys)) else none
  | _, _ => none
theorem ok_add : OpOk X S (rAddD X.K) dAdd := fun Y A σ H δ F v u x y d Q Rl rx ry e q => by
  cases rx with
  | int i => cases ry <;> simp [dAdd] at e
             rename_i j
             subst e
             exact .inl ⟨i, j, rfl, rfl, q _ _ _ Rl (Same.refl F) (.int _)⟩
  | str i => cases ry <;> simp [dAdd] at e
             rename_i j
             obtain ⟨hz, e⟩ := e
             subst e
             exact .inr (.inl ⟨i, j, rfl, rfl, hz, q _ _ _ Rl (Same.refl F) (.str _)⟩)
  | tup hx r => cases ry <;> simp [dAdd] at e
                rename_i hy r2
                obtain ⟨hz, e⟩ := e
                subst e
                refine .inr (.inr (.inl ⟨_, _, _, _, rfl, rfl, sqt_same Rl.sub hx, sqt_same Rl.sub hy, by rw [r.length, r2.length]; exact hz, fun e1 => ?_, fun _ e1 => ?_, fun _ _ p hp => ?_⟩))
                · subst e1
                  cases r
                  exact q _ _ _ Rl (Same.refl F) (.tup hy r2)
                · subst e1
                  cases r2
                  rw [List.append_nil] at q
                  exact q _ _ _ Rl (Same.refl F) (.tup hx r)
                · obtain ⟨a1, a2, a3⟩ := rp_tup_lay Rl (r.append r2) hp
                  exact q _ _ _ a1 a2 a3
  | lst hx r => cases ry <;> simp [dAdd] at e
                rename_i hy r2
                obtain ⟨hz, e⟩ := e
                subst e
                refine .inr (.inr (.inr ⟨_, _, _, _, rfl, rfl, Rl.sub _ _ hx, Rl.sub _ _ hy, by rw [r.length, r2.length]; exact hz, fun p hp => ?_⟩))
                have hF := Rl.sub.free hp
                exact q _ _ _ (Rl.lay hp fun _ z => nomatch z) (same_upd hF) (.lst upd_same ((r.append r2).mono (same_upd hF)))
  | _ => simp [dAdd] at e
/-- list + list, a new list; the left one read at once is not served: both are data -/
def OpNew (X : Cx) (S : Sx) (r : R2) (f : D → D → Option OC) : Prop := ∀ Y A σ H δ F v u x y d Q, Rel X.K S Y F A H σ δ → RdP X.K F H x v → RdP X.K F H y u → f x y = some d →
  (∀ w H', Rel X.K S Y F A H' σ δ → ρO X.K S Y A F H' δ d w → Q w H') → r v u H Q
def gOpN (f : D → D → Option OC) (ga gb : SS → R D) : SS → R OC := fun δ => (ga δ).bind fun x δ1 => (gb δ1).bind fun y δ2 => R.opt (f x y) δ2
theorem eo_op {op : Operator} {r : R2} {f : D → D → Option OC} (ho : OpR X (binaryOp op) r) (hf : OpNew X S r f) (ha : EV X S W a ga) (hb : EP X S W b gb) : EO X S W (.BinOp a op b pos) (gOpN f ga gb) := by
  obtain ⟨ta, pa, qa⟩ := ha
  obtain ⟨tb, pb, qb⟩ := hb
  refine ⟨_, pe_op ho pa pb, fun Y A σ H δ F Q Rl h => ?_⟩
  refine qa _ _ _ _ _ _ _ Rl (Run.bind h fun x δ1 v H1 F1 e R1 s1 rx h1 => ?_)
  refine qb _ _ _ _ _ _ _ R1 (Run.bind h1 fun y δ2 u H2 F2 e2 R2 s2 ry h2 => ?_)
  obtain ⟨d, ed, q⟩ := Run.opt h2
  exact hf _ _ _ _ _ _ _ _ _ _ _ _ R2 (.inl (rx.mono s2)) ry ed fun w H' R' r' => q w _ _ R' (Same.refl _) r'
def cCat : D → D → Option OC
  | .list xs, .list ys => if xs.length + ys.length ≤ sizeLine then some (.l (xs ++ ys)) else none
  | _, _ => none
theorem new_cat : OpNew X S rCat cCat := fun Y A σ H δ F v u x y d Q Rl rx ry e q => by
  cases x <;> cases y <;> simp [cCat] at e
  obtain ⟨hz, e⟩ := e
  subst e
  obtain ⟨a1, vs, rfl, h1, r1⟩ := rx.list Rl.sub
  obtain ⟨a2, us, rfl, h2, r2⟩ := ry.list Rl.sub
  refine ⟨_, _, _, _, rfl, rfl, h1, h2, by rw [r1.length, r2.length]; exact hz, fun p hp => ?_⟩
  obtain ⟨b1, b2⟩ := rp_lst_new Rl (r1.append r2) hp
  exact q _ _ b1 b2
def repD (n : Nat) (xs : List D) : List D := (List.replicate n xs).flatten
theorem Rps.rep {K : Frg} {F : Hp} {xs : List D} {vs : List V} (r : Rps K F xs vs) : ∀ n : Nat, Rps K F (repD n xs) (List.replicate n vs).flatten
  | 0 => .nil
  | n + 1 => by
    unfold repD
    rw [List.replicate_succ, List.replicate_succ, List.flatten_cons, List.flatten_cons]
    exact r.append (Rps.rep r n)
def cRep : D → D → Option OC
  | .list xs, .int k => if -(2 ^ 63) ≤ k ∧ k < 2 ^ 63 ∧ xs.length * k.toNat ≤ sizeLine then some (.l (repD k.toNat xs)) else none
  | _, _ => none
theorem new_rep : OpNew X S rRep cRep := fun Y A σ H δ F v u x y d Q Rl rx ry e q => by
  cases x <;> cases y <;> simp only [cRep] at e <;> try (cases e)
  split at e
  · rename_i hz
    cases e
    obtain ⟨a1, vs, rfl, h1, r1⟩ := rx.list Rl.sub
    have e2 := rd_int ry
    subst e2
    refine ⟨_, _, _, rfl, rfl, h1, hz.1, hz.2.1, by rw [r1.length]; exact hz.2.2, fun p hp => ?_⟩
    obtain ⟨b1, b2⟩ := rp_lst_new Rl (r1.rep _) hp
    exact q _ _ b1 b2
  · cases e
def dMul : D → D → Option D := fI fun i j => if (-(2 ^ 64) < i ∧ i < 2 ^ 64) ∨ (-(2 ^ 64) < j ∧ j < 2 ^ 64) then some (.int (i * j)) else none
theorem rd_mul : OpRd X S (rI CMul fun i j => .int (i * j)) dMul := rd_i fun _ _ i j d h => by
  split at h
  · rename_i hc
    cases h
    exact ⟨hc, .int _⟩
  · cases h
/-- a tuple so often -/
def dRepT : D → D → Option D
  | .tuple xs, .int k => if xs ≠ [] ∧ 2 ≤ k ∧ k ≤ 1000 ∧ xs.length ≤ 1000 then some (.tuple (repD k.toNat xs)) else none
  | _, _ => none
theorem ok_repT : OpOk X S (rRepT X.K) dRepT := fun Y A σ H δ F v u x y d Q Rl rx ry e q => by
  cases rx with
  | tup hx r =>
    cases ry with
    | int k =>
      simp only [dRepT] at e
      split at e
      · rename_i hz
        cases e
        refine ⟨_, k, _, rfl, rfl, sqt_same Rl.sub hx, fun z => hz.1 ?_, hz.2.1, hz.2.2.1, by rw [r.length]; exact hz.2.2.2, fun p hp => ?_⟩
        · subst z
          cases r
          rfl
        · obtain ⟨a1, a2, a3⟩ := rp_tup_lay Rl (r.rep _) hp
          exact q _ _ _ a1 a2 a3
      · cases e
    | _ => cases e
  | _ => cases e
/-! ### - x -/
def gUn (f : D → Option D) (g : SS → R D) : SS → R D := fun δ => (g δ).bind fun x δ1 => R.opt (f x) δ1
def dNeg : D → Option D
  | .int i => some (.int (-i))
  | _ => none
theorem ev_neg (h : EV X S W a ga) : EV X S W (.UnaryOp .USub a pos) (gUn dNeg ga) := by
  obtain ⟨t, p, q⟩ := h
  refine ⟨_, pe_un un_neg p, fun Y A σ H δ F Q Rl hr => q _ _ _ _ _ _ _ Rl (Run.bind hr fun x δ1 v H1 F1 _ R1 s1 rx h1 => ?_)⟩
  obtain ⟨d, ed, q'⟩ := Run.opt h1
  cases rx <;> simp [dNeg] at ed
  subst ed
  exact ⟨_, rfl, q' _ _ _ R1 (Same.refl _) (.int _)⟩
end
end DL
set_option Elab.async false
set_option linter.all false
set_option maxRecDepth 100000
set_option maxHeartbeats 4000000
namespace DL
open PySem PySem.Spec PyProof.Rows L2
section
variable {X : Cx} {S : Sx} {W : WX} {a b e : Expr} {es : List Expr} {pos p pos2 : Pos} {ga gb : SS → R D} {fn : Str}
/-! ### built-ins of one argument -/
def C1Ok (X : Cx) (S : Sx) (r : List V → Hp → VK → Prop) (f : D → Option D) : Prop := ∀ Y A σ H δ F v x d Q, Rel X.K S Y F A H σ δ → RdP X.K F H x v → f x = some d →
  (∀ w H' F', Rel X.K S Y F' A H' σ δ → Same F F' → Rp X.K F' d w → Q w H') → r [v] H Q
def C1New (X : Cx) (S : Sx) (r : List V → Hp → VK → Prop) (f : D → Option OC) : Prop := ∀ Y A σ H δ F v x d Q, Rel X.K S Y F A H σ δ → RdP X.K F H x v → f x = some d →
  (∀ w H', Rel X.K S Y F A H' σ δ → ρO X.K S Y A F H' δ d w → Q w H') → r [v] H Q
theorem c1_run {r : List V → Hp → VK → Prop} {f : D → Option D} {te : TE} (hf : C1Ok X S r f) (qa : ∀ Y A σ H δ F Q, Rel X.K S Y F A H σ δ → Run X.K X.mg S Y A σ W (ρP X.K) F (ga δ) Q → te σ H Q) :
    ∀ Y A σ H δ F Q, Rel X.K S Y F A H σ δ → Run X.K X.mg S Y A σ W (ρD X.K) F (gUn f ga δ) Q → tCB r (tCons te tNil) σ H Q := fun Y A σ H δ F Q Rl h => by
  refine qa _ _ _ _ _ _ _ Rl (Run.bind h fun x δ1 v H1 F1 e R1 s1 rx h1 => ?_)
  obtain ⟨d, ed, q⟩ := Run.opt h1
  exact hf _ _ _ _ _ _ _ _ _ _ R1 rx ed fun w H' F' R' s' r' => q w _ _ R' s' r'
theorem c1n_run {r : List V → Hp → VK → Prop} {f : D → Option OC} {te : TE} (hf : C1New X S r f) (qa : ∀ Y A σ H δ F Q, Rel X.K S Y F A H σ δ → Run X.K X.mg S Y A σ W (ρP X.K) F (ga δ) Q → te σ H Q) :
    ∀ Y A σ H δ F Q, Rel X.K S Y F A H σ δ → Run X.K X.mg S Y A σ W (ρO X.K S Y A) F ((ga δ).bind fun x δ1 => R.opt (f x) δ1) Q → tCB r (tCons te tNil) σ H Q := fun Y A σ H δ F Q Rl h => by
  refine qa _ _ _ _ _ _ _ Rl (Run.bind h fun x δ1 v H1 F1 e R1 s1 rx h1 => ?_)
  obtain ⟨d, ed, q⟩ := Run.opt h1
  exact hf _ _ _ _ _ _ _ _ _ _ R1 rx ed fun w H' R' r' => q w _ _ R' (Same.refl _) r'
def gUnN (f : D → Option OC) (g : SS → R D) : SS → R OC := fun δ => (g δ).bind fun x δ1 => R.opt (f x) δ1
theorem ev_b1 {id : String} {r : List V → Hp → VK → Prop} {f : D → Option D} (hc : CallR X (.builtin id) r) (hf : C1Ok X S r f) (hm : X.mg fn = none) (hv : bootBuiltins fn = some (.builtin id)) (h : EP X S W e ga) (hg : Gl X fn := by rfl)
    (hn : fn ≠ "__name__" := by decide) (hdb : (fn == ("__debug__" : Str)) = false := by decide) (hs : starEach [e] X.env = (false, eval e X.env) :: starEach [] X.env := by rfl) : EV X S W (.Call (.Name fn p) [e] [] pos) (gUn f ga) := by
  obtain ⟨t, pe, q⟩ := h
  exact ⟨_, pe_callB hc hg hm hv (pa_cons pe pa_nil hs) hn hdb hs rfl, c1_run hf q⟩
theorem ev_t1 {T : String} {r : List V → Hp → VK → Prop} {f : D → Option D} (hc : CallR X (.type T) r) (hf : C1Ok X S r f) (hm : X.mg fn = none) (hv : bootBuiltins fn = some (.type T)) (h : EP X S W e ga) (hg : Gl X fn := by rfl)
    (hn : fn ≠ "__name__" := by decide) (hdb : (fn == ("__debug__" : Str)) = false := by decide) (hs : starEach [e] X.env = (false, eval e X.env) :: starEach [] X.env := by rfl) : EV X S W (.Call (.Name fn p) [e] [] pos) (gUn f ga) := by
  obtain ⟨t, pe, q⟩ := h
  exact ⟨_, pe_callTy hc hg hm hv (pa_cons pe pa_nil hs) hn hdb hs rfl, c1_run hf q⟩
theorem eo_b1 {id : String} {r : List V → Hp → VK → Prop} {f : D → Option OC} (hc : CallR X (.builtin id) r) (hf : C1New X S r f) (hm : X.mg fn = none) (hv : bootBuiltins fn = some (.builtin id)) (h : EP X S W e ga) (hg : Gl X fn := by rfl)
    (hn : fn ≠ "__name__" := by decide) (hdb : (fn == ("__debug__" : Str)) = false := by decide) (hs : starEach [e] X.env = (false, eval e X.env) :: starEach [] X.env := by rfl) : EO X S W (.Call (.Name fn p) [e] [] pos) (gUnN f ga) := by
  obtain ⟨t, pe, q⟩ := h
  exact ⟨_, pe_callB hc hg hm hv (pa_cons pe pa_nil hs) hn hdb hs rfl, c1n_run hf q⟩
theorem eo_t1 {T : String} {r : List V → Hp → VK → Prop} {f : D → Option OC} (hc : CallR X (.type T) r) (hf : C1New X S r f) (hm : X.mg fn = none) (hv : bootBuiltins fn = some (.type T)) (h : EP X S W e ga) (hg : Gl X fn := by rfl)
    (hn : fn ≠ "__name__" := by decide) (hdb : (fn == ("__debug__" : Str)) = false := by decide) (hs : starEach [e] X.env = (false, eval e X.env) :: starEach [] X.env := by rfl) : EO X S W (.Call (.Name fn p) [e] [] pos) (gUnN f ga) := by
  obtain ⟨t, pe, q⟩ := h
  exact ⟨_, pe_callTy hc hg hm hv (pa_cons pe pa_nil hs) hn hdb hs rfl, c1n_run hf q⟩
/-! len -/
def dLen : D → Option D
  | .list xs => some (.int xs.length)
  | .tuple xs => some (.int xs.length)
  | .str z => if z.length ≤ sizeLine then some (.int z.length) else none
  | _ => none
theorem ok_len : C1Ok X S (fun xs H Q => ∃ x n, xs = [x] ∧ LenV X.K x H n ∧ Q (.int n) H) dLen := fun Y A σ H δ F v x d Q Rl rx e q => by
  cases x <;> simp [dLen] at e
  · rename_i z
    obtain ⟨hz, e⟩ := e
    subst e
    have e2 := rd_str rx
    subst e2
    exact ⟨_, _, rfl, ⟨hz, rfl⟩, q _ _ _ Rl (Same.refl F) (.int _)⟩
  · subst e
    obtain ⟨a1, vs, rfl, h1, r1⟩ := rx.list Rl.sub
    refine ⟨_, vs.length, rfl, .inl ⟨vs, .inl (.inl h1), rfl⟩, ?_⟩
    rw [r1.length]
    exact q _ _ _ Rl (Same.refl F) (.int _)
  · subst e
    obtain ⟨a1, vs, rfl, h1, r1⟩ := rx.tuple
    refine ⟨_, vs.length, rfl, .inr ⟨vs, sqt_same Rl.sub h1, rfl⟩, ?_⟩
    rw [r1.length]
    exact q _ _ _ Rl (Same.refl F) (.int _)
/-! abs, int -/
def dAbs : D → Option D
  | .int i => some (.int (if i < 0 then -i else i))
  | _ => none
theorem ok_abs : C1Ok X S (fun xs H Q => ∃ i, xs = [.int i] ∧ Q (.int (if i < 0 then -i else i)) H) dAbs := fun Y A σ H δ F v x d Q Rl rx e q => by
  cases x <;> simp only [dAbs] at e <;> try (cases e)
  have e2 := rd_int rx
  subst e2
  exact ⟨_, rfl, q _ _ _ Rl (Same.refl F) (.int _)⟩
def dInt : D → Option D
  | .int i => some (.int i)
  | .bool k => some (.int (if k then 1 else 0))
  | _ => none
theorem ok_int : C1Ok X S (fun xs H Q => (∃ i, xs = [.int i] ∧ Q (.int i) H) ∨ ∃ k, xs = [.bl k] ∧ Q (.int (if k then 1 else 0)) H) dInt := fun Y A σ H δ F v x d Q Rl rx e q => by
  cases x <;> simp only [dInt] at e <;> try (cases e)
  · have e2 := rd_bl rx
    subst e2
    exact .inr ⟨_, rfl, q _ _ _ Rl (Same.refl F) (.int _)⟩
  · have e2 := rd_int rx
    subst e2
    exact .inl ⟨_, rfl, q _ _ _ Rl (Same.refl F) (.int _)⟩
/-! tuple, list -/
def dTuple : D → Option D
  | .list xs => some (.tuple xs)
  | .tuple xs => some (.tuple xs)
  | _ => none
theorem ok_tuple : C1Ok X S (fun xs H Q => ∃ p ys, xs = [.ref p] ∧ ((SqL X.K H p ys ∧ ∀ l, H l = none → Q (.ref l) (upd H l (.tup ys))) ∨ (SqT X.K H p ys ∧ Q (.ref p) H))) dTuple := fun Y A σ H δ F v x d Q Rl rx e q => by
  cases x <;> simp [dTuple] at e
  · subst e
    obtain ⟨a1, vs, rfl, h1, r1⟩ := rx.list Rl.sub
    refine ⟨a1, vs, rfl, .inl ⟨.inl (.inl h1), fun l hl => ?_⟩⟩
    obtain ⟨b1, b2, b3⟩ := rp_tup_lay Rl r1 hl
    exact q _ _ _ b1 b2 b3
  · subst e
    obtain ⟨a1, vs, rfl, h1, r1⟩ := rx.tuple
    exact ⟨a1, vs, rfl, .inr ⟨sqt_same Rl.sub h1, q _ _ _ Rl (Same.refl F) (.tup h1 r1)⟩⟩
def cList : D → Option OC := fun x => (dSeq x).map .l
theorem new_list : C1New X S (fun xs H Q => ∃ p ys, xs = [.ref p] ∧ (SqL X.K H p ys ∨ SqT X.K H p ys) ∧ ∀ l, H l = none → Q (.ref l) (upd H l (.lst ys))) cList := fun Y A σ H δ F v x d Q Rl rx e q => by
  unfold cList at e
  cases hs : dSeq x with
  | none =>
    rw [hs] at e
    cases e
  | some ds =>
    rw [hs] at e
    cases e
    obtain ⟨a1, vs, rfl, h1, r1⟩ := rx.seq Rl.sub hs
    refine ⟨a1, vs, rfl, h1, fun l hl => ?_⟩
    obtain ⟨b1, b2⟩ := rp_lst_new Rl r1 hl
    exact q _ _ b1 b2
/-! sum, max, min, all, any -/
def intsOf : List D → Option (List Int)
  | [] => some []
  | .int i :: r => (intsOf r).map (i :: ·)
  | _ => none
theorem intsOf_map : ∀ ns : List Int, intsOf (ns.map .int) = some ns
  | [] => rfl
  | n :: r => by
    show (intsOf (r.map .int)).map (n :: ·) = _
    rw [intsOf_map r]
    rfl
theorem intsOf_eq : ∀ {ds : List D} {ns : List Int}, intsOf ds = some ns → ds = ns.map .int
  | [], ns, h => by
    cases h
    rfl
  | .int i :: r, ns, h => by
    have h' : (intsOf r).map (i :: ·) = some ns := h
    cases e : intsOf r with
    | none =>
      rw [e] at h'
      cases h'
    | some ms =>
      rw [e] at h'
      cases h'
      rw [intsOf_eq e]
      rfl
  | .none :: _, _, h => by cases h
  | .bool _ :: _, _, h => by cases h
  | .str _ :: _, _, h => by cases h
  | .list _ :: _, _, h => by cases h
  | .tuple _ :: _, _, h => by cases h
  | .dict _ :: _, _, h => by cases h
def blsOf : List D → Option (List Bool)
  | [] => some []
  | .bool i :: r => (blsOf r).map (i :: ·)
  | _ => none
theorem blsOf_map : ∀ ns : List Bool, blsOf (ns.map .bool) = some ns
  | [] => rfl
  | n :: r => by
    show (blsOf (r.map .bool)).map (n :: ·) = _
    rw [blsOf_map r]
    rfl
theorem blsOf_eq : ∀ {ds : List D} {ns : List Bool}, blsOf ds = some ns → ds = ns.map .bool
  | [], ns, h => by
    cases h
    rfl
  | .bool i :: r, ns, h => by
    have h' : (blsOf r).map (i :: ·) = some ns := h
    cases e : blsOf r with
    | none =>
      rw [e] at h'
      cases h'
    | some ms =>
      rw [e] at h'
      cases h'
      rw [blsOf_eq e]
      rfl
  | .none :: _, _, h => by cases h
  | .int _ :: _, _, h => by cases h
  | .str _ :: _, _, h => by cases h
  | .list _ :: _, _, h => by cases h
  | .tuple _ :: _, _, h => by cases h
  | .dict _ :: _, _, h => by cases h
theorem Rps.bls {K : Frg} {F : Hp} : ∀ {ns : List Bool} {vs : List V}, Rps K F (ns.map .bool) vs → vs = ns.map .bl
  | [], _, .nil => rfl
  | n :: ns, _, .cons a t => by
    have e := Rps.bls (ns := ns) t
    cases a
    rw [e]
    rfl
def maxI : List Int → Option Int
  | [] => none
  | x :: xs => some (xs.foldl max x)
def minI : List Int → Option Int
  | [] => none
  | x :: xs => some (xs.foldl min x)
theorem foldl_max_ge : ∀ (xs : List Int) (x : Int), x ≤ xs.foldl max x ∧ (∀ y ∈ xs, y ≤ xs.foldl max x) ∧ (xs.foldl max x = x ∨ xs.foldl max x ∈ xs)
  | [], x => ⟨Int.le_refl x, by simp, .inl rfl⟩
  | y :: r, x => by
    obtain ⟨h1, h2, h3⟩ := foldl_max_ge r (max x y)
    have e : (y :: r).foldl max x = r.foldl max (max x y) := rfl
    rw [e]
    refine ⟨by omega, fun z hz => ?_, ?_⟩
    · rcases List.mem_cons.mp hz with rfl | hz
      · omega
      · exact h2 z hz
    · rcases h3 with h | h
      · by_cases hxy : x ≤ y
        · exact .inr (by rw [h]; have : max x y = y := by omega
                         rw [this]; exact List.mem_cons_self ..)
        · exact .inl (by rw [h]; omega)
      · exact .inr (List.mem_cons_of_mem _ h)
theorem foldl_min_le : ∀ (xs : List Int) (x : Int), xs.foldl min x ≤ x ∧ (∀ y ∈ xs, xs.foldl min x ≤ y) ∧ (xs.foldl min x = x ∨ xs.foldl min x ∈ xs)
  | [], x => ⟨Int.le_refl x, by simp, .inl rfl⟩
  | y :: r, x => by
    obtain ⟨h1, h2, h3⟩ := foldl_min_le r (min x y)
    have e : (y :: r).foldl min x = r.foldl min (min x y) := rfl
    rw [e]
    refine ⟨by omega, fun z hz => ?_, ?_⟩
    · rcases List.mem_cons.mp hz with rfl | hz
      · omega
      · exact h2 z hz
    · rcases h3 with h | h
      · by_cases hxy : y ≤ x
        · exact .inr (by rw [h]; have : min x y = y := by omega
                         rw [this]; exact List.mem_cons_self ..)
        · exact .inl (by rw [h]; omega)
      · exact .inr (List.mem_cons_of_mem _ h)
theorem maxI_spec {ns : List Int} {m : Int} (h : maxI ns = some m) : m ∈ ns ∧ ∀ y ∈ ns, y ≤ m := by
  cases ns with
  | nil => cases h
  | cons x xs =>
    cases h
    obtain ⟨h1, h2, h3⟩ := foldl_max_ge xs x
    refine ⟨h3.elim (fun e => by rw [e]; exact List.mem_cons_self ..) fun e => List.mem_cons_of_mem _ e, fun y hy => ?_⟩
    rcases List.mem_cons.mp hy with rfl | hy
    · exact h1
    · exact h2 y hy
theorem minI_spec {ns : List Int} {m : Int} (h : minI ns = some m) : m ∈ ns ∧ ∀ y ∈ ns, m ≤ y := by
  cases ns with
  | nil => cases h
  | cons x xs =>
    cases h
    obtain ⟨h1, h2, h3⟩ := foldl_min_le xs x
    refine ⟨h3.elim (fun e => by rw [e]; exact List.mem_cons_self ..) fun e => List.mem_cons_of_mem _ e, fun y hy => ?_⟩
    rcases List.mem_cons.mp hy with rfl | hy
    · exact h1
    · exact h2 y hy
def onInts (f : List Int → Option Int) : D → Option D
  | .list xs => (intsOf xs).bind fun ns => (f ns).map .int
  | _ => none
theorem onInts_some {f : List Int → Option Int} {x d : D} (h : onInts f x = some d) : ∃ ns i, x = .list (ns.map .int) ∧ f ns = some i ∧ d = .int i := by
  cases x <;> simp only [onInts] at h <;> try (cases h)
  rename_i xs
  cases e : intsOf xs with
  | none =>
    rw [e] at h
    cases h
  | some ns =>
    rw [e] at h
    have h' : (f ns).map PyData.int = some d := h
    cases e2 : f ns with
    | none =>
      rw [e2] at h'
      cases h'
    | some i =>
      rw [e2] at h'
      cases h'
      exact ⟨ns, i, by rw [intsOf_eq e], e2, rfl⟩
def dSum : D → Option D := onInts fun ns => some ns.sum
def dMax : D → Option D := onInts maxI
def dMin : D → Option D := onInts minI
theorem ints_list {Y : Dy} {A : Nat → Addr} {σ : L2.St} {H F : Hp} {δ : SS} {v : V} {ns : List Int} (Rl : Rel X.K S Y F A H σ δ) (rx : RdP X.K F H (.list (ns.map .int)) v) : ∃ a, v = .ref a ∧ SqL X.K H a (ns.map V.int) := by
  obtain ⟨a1, vs, rfl, h1, r1⟩ := rx.list Rl.sub
  rw [r1.ints] at h1
  exact ⟨a1, rfl, .inl (.inl h1)⟩
theorem ok_sum : C1Ok X S (rSum X.K) dSum := fun Y A σ H δ F v x d Q Rl rx e q => by
  obtain ⟨ns, i, rfl, h1, rfl⟩ := onInts_some e
  cases h1
  obtain ⟨a1, rfl, h1⟩ := ints_list Rl rx
  exact ⟨a1, ns, rfl, h1, q _ _ _ Rl (Same.refl F) (.int _)⟩
theorem ok_max : C1Ok X S (rMax X.K) dMax := fun Y A σ H δ F v x d Q Rl rx e q => by
  obtain ⟨ns, i, rfl, h1, rfl⟩ := onInts_some e
  obtain ⟨a1, rfl, h2⟩ := ints_list Rl rx
  obtain ⟨h3, h4⟩ := maxI_spec h1
  refine ⟨a1, ns, rfl, h2, List.length_pos_of_mem h3, fun m hm1 hm2 => ?_⟩
  have e2 : m = i := Int.le_antisymm (h4 m hm1) (hm2 i h3)
  rw [e2]
  exact q _ _ _ Rl (Same.refl F) (.int _)
theorem ok_min : C1Ok X S (rMin X.K) dMin := fun Y A σ H δ F v x d Q Rl rx e q => by
  obtain ⟨ns, i, rfl, h1, rfl⟩ := onInts_some e
  obtain ⟨a1, rfl, h2⟩ := ints_list Rl rx
  obtain ⟨h3, h4⟩ := minI_spec h1
  refine ⟨a1, ns, rfl, h2, List.length_pos_of_mem h3, fun m hm1 hm2 => ?_⟩
  have e2 : m = i := Int.le_antisymm (hm2 i h3) (h4 m hm1)
  rw [e2]
  exact q _ _ _ Rl (Same.refl F) (.int _)
def onBls (f : List Bool → Bool) : D → Option D
  | .list xs => (blsOf xs).map fun bs => .bool (f bs)
  | _ => none
theorem onBls_some {f : List Bool → Bool} {x d : D} (h : onBls f x = some d) : ∃ ns, x = .list (ns.map .bool) ∧ d = .bool (f ns) := by
  cases x <;> simp only [onBls] at h <;> try (cases h)
  rename_i xs
  cases e : blsOf xs with
  | none =>
    rw [e] at h
    cases h
  | some ns =>
    rw [e] at h
    cases h
    exact ⟨ns, by rw [blsOf_eq e], rfl⟩
def dAll : D → Option D := onBls fun bs => bs.all id
def dAny : D → Option D := onBls fun bs => bs.any id
theorem ok_all : C1Ok X S (rAll X.K) dAll := fun Y A σ H δ F v x d Q Rl rx e q => by
  obtain ⟨ns, rfl, rfl⟩ := onBls_some e
  obtain ⟨a1, vs, rfl, h1, r1⟩ := rx.list Rl.sub
  rw [r1.bls] at h1
  exact ⟨a1, ns, rfl, .inl (.inl h1), q _ _ _ Rl (Same.refl F) (.bl _)⟩
theorem ok_any : C1Ok X S (rAny X.K) dAny := fun Y A σ H δ F v x d Q Rl rx e q => by
  obtain ⟨ns, rfl, rfl⟩ := onBls_some e
  obtain ⟨a1, vs, rfl, h1, r1⟩ := rx.list Rl.sub
  rw [r1.bls] at h1
  exact ⟨a1, ns, rfl, .inl (.inl h1), q _ _ _ Rl (Same.refl F) (.bl _)⟩
/-! sorted of a list -/
def okSort (ds : List D) : Bool := (ds.all fun x => ds.all fun y => PySem.W.alike x y) && (ds.all (fun x => match x with | .tuple (_ :: _) => true | _ => false) || ds.all fun x => match x with | .none => false | .tuple _ => false | _ => true) &&
  (ds.all fun x => x.plain && decide (x.depth ≤ 60)) && decide (ds.length ≤ sizeLine)
def sortD (ds : List D) : List D := ds.mergeSort (PySem.W.dataLe false id)
theorem okSort_facts {ds : List D} (h : okSort ds = true) : PySem.W.AllAlike ds ∧ PySem.W.Sortable ds ∧ (∀ d ∈ ds, d.plain = true ∧ d.depth ≤ 60) ∧ ds.length ≤ sizeLine := by
  unfold okSort at h
  simp only [Bool.and_eq_true, Bool.or_eq_true, List.all_eq_true, decide_eq_true_eq] at h
  obtain ⟨⟨⟨h1, h2⟩, h3⟩, h4⟩ := h
  refine ⟨fun d hd e he => h1 d hd e he, ?_, h3, h4⟩
  rcases h2 with h2 | h2
  · refine .inl fun d hd => ?_
    have z := h2 d hd
    cases d with
    | tuple xs =>
      cases xs with
      | nil => cases z
      | cons x r => exact ⟨x, r, rfl⟩
    | _ => cases z
  · refine .inr fun d hd => ?_
    have z := h2 d hd
    cases d with
    | none => cases z
    | tuple xs => cases z
    | _ => exact ⟨by simp, by simp⟩
theorem plainAll_of : ∀ {ds : List D}, (∀ d ∈ ds, d.plain = true) → PyData.plainAll ds = true
  | [], _ => by simp [PyData.plainAll]
  | d :: r, h => by
    simp only [PyData.plainAll, Bool.and_eq_true]
    exact ⟨h d (List.mem_cons_self ..), plainAll_of fun x hx => h x (List.mem_cons_of_mem _ hx)⟩
def rSortD (K : Frg) : List V → Hp → VK → Prop := fun vs H Q => ∃ a xs F ds, vs = [.ref a] ∧ SqL K H a xs ∧ Same F H ∧ Rps K F ds xs ∧ okSort ds = true ∧ ∀ ys p, Rps K F (sortD ds) ys → H p = none → Q (.ref p) (upd H p (.lst ys))
theorem each_of {K : Frg} {F : Hp} : ∀ {ds : List D} {xs : List V} {us : List Value}, Rps K F ds xs → Vals xs us → PySem.W.EachIs (fun v d => ∃ x, RelV x v ∧ Rp K F d x) us ds
  | _, _, _, .nil, .nil => .nil
  | _, _, _, .cons a r, .cons v t => .cons ⟨_, v, a⟩ (each_of r t)
theorem of_each {K : Frg} {F : Hp} : ∀ {ds : List D} {us : List Value}, PySem.W.EachIs (fun v d => ∃ x, RelV x v ∧ Rp K F d x) us ds → ∃ ys, Vals ys us ∧ Rps K F ds ys
  | _, _, .nil => ⟨[], .nil, .nil⟩
  | _, _, .cons ⟨x, r, q⟩ t => by
    obtain ⟨ys, h1, h2⟩ := of_each t
    exact ⟨x :: ys, .cons r h1, .cons q h2⟩
theorem cr_sortD (hu : X.A.units + 64 < cLine) : CallR X (.builtin "sorted") (rSortD X.K) := by
  intro pins s σ H vs us Q I r h
  obtain ⟨a, xs, F, ds, rfl, hs, k, rp, ok, q⟩ := h
  obtain ⟨h1, h2, h3, h4⟩ := okSort_facts ok
  obtain ⟨its, rv, hl, _⟩ := I.list hs
  rw [Vals.ref1 r]
  obtain ⟨as, hr⟩ := rps_reads I k ds xs its rp rv (plainAll_of fun d hd => (h3 d hd).1)
  have em : ds.map id = ds := List.map_id ds
  refine PySem.W.sorted_data (enc := id) (bs := ds) hl.isList (each_of rp rv) (PySem.W.readsAll_each id (by rw [em]; exact hr)) (by rw [em]; exact h1) (by rw [em]; exact h2) h4 (fun d hd => by have := (h3 d hd).2; show X.A.units + 2 + d.depth < cLine; omega) fun out ho eo => ?_
  obtain ⟨ys, v1, v2⟩ := of_each eo
  obtain ⟨ep, he'⟩ := PyProof.Rows.sortedAll_at s.heap its out.toArray
  have hlen : ys.length ≤ sizeLine := by rw [v2.length, List.length_mergeSort]; exact h4
  exact ⟨.ref _, upd H (s.heap.objs.size + 1) (.lst ys), I.laid (t' := s.toks) (fun _ _ => PyProof.Rows.sortedAll_old) (Nat.le_succ _) ⟨hlen, out, ep, v1, he'⟩, rfl, q ys _ v2 (I.hok.fresh (Nat.le_succ _))⟩
def cSorted : D → Option OC
  | .list xs => if okSort xs = true then some (.l (sortD xs)) else none
  | _ => none
theorem new_sorted : C1New X S (rSortD X.K) cSorted := fun Y A σ H δ F v x d Q Rl rx e q => by
  cases x <;> simp only [cSorted] at e <;> try (cases e)
  rename_i xs
  split at e
  · rename_i ok
    cases e
    obtain ⟨a1, vs, rfl, h1, r1⟩ := rx.list Rl.sub
    refine ⟨a1, vs, F, xs, rfl, .inl (.inl h1), Rl.sub, r1, ok, fun ys p ry hp => ?_⟩
    obtain ⟨b1, b2⟩ := rp_lst_new Rl ry hp
    exact q _ _ b1 b2
  · cases e
/-! ### two arguments: max, min of two ints -/
def gCall2 (f : D → D → Option D) (ga gb : SS → R D) : SS → R D := gOp f ga gb
def C2Ok (X : Cx) (S : Sx) (r : List V → Hp → VK → Prop) (f : D → D → Option D) : Prop := ∀ Y A σ H δ F v u x y d Q, Rel X.K S Y F A H σ δ → Rp X.K F x v → RdP X.K F H y u → f x y = some d →
  (∀ w H' F', Rel X.K S Y F' A H' σ δ → Same F F' → Rp X.K F' d w → Q w H') → r [v, u] H Q
theorem ev_b2 {id : String} {r : List V → Hp → VK → Prop} {f : D → D → Option D} (hc : CallR X (.builtin id) r) (hf : C2Ok X S r f) (hm : X.mg fn = none) (hv : bootBuiltins fn = some (.builtin id)) (h : EV X S W a ga) (h2 : EP X S W b gb) (hg : Gl X fn := by rfl)
    (hn : fn ≠ "__name__" := by decide) (hdb : (fn == ("__debug__" : Str)) = false := by decide) (hs : starEach [a, b] X.env = (false, eval a X.env) :: starEach [b] X.env := by rfl) (hs2 : starEach [b] X.env = (false, eval b X.env) :: starEach [] X.env := by rfl) : EV X S W (.Call (.Name fn p) [a, b] [] pos) (gOp f ga gb) := by
  obtain ⟨t, pe, q⟩ := h
  obtain ⟨t2, pe2, q2⟩ := h2
  refine ⟨_, pe_callB hc hg hm hv (pa_cons pe (pa_cons pe2 pa_nil hs2) hs) hn hdb hs (by rw [hs2]; rfl), fun Y A σ H δ F Q Rl hr => ?_⟩
  refine q _ _ _ _ _ _ _ Rl (Run.bind hr fun x δ1 v H1 F1 e R1 s1 rx h1 => ?_)
  refine q2 _ _ _ _ _ _ _ R1 (Run.bind h1 fun y δ2 u H2 F2 e2 R2 s2 ry h2 => ?_)
  obtain ⟨d, ed, q⟩ := Run.opt h2
  exact hf _ _ _ _ _ _ _ _ _ _ _ _ R2 (rx.mono s2) ry ed fun w H' F' R' s' r' => q w _ _ R' s' r'
def dMax2 : D → D → Option D := fI fun i j => some (.int (max i j))
def dMin2 : D → D → Option D := fI fun i j => some (.int (min i j))
theorem ok_max2 : C2Ok X S (fun xs H Q => ∃ i j, xs = [.int i, .int j] ∧ Q (.int (if j > i then j else i)) H) dMax2 := fun Y A σ H δ F v u x y d Q Rl rx ry e q => by
  obtain ⟨i, j, rfl, rfl, e'⟩ := fI_some e
  cases e'
  have e1 := rd_int (.inl rx : RdP X.K F H (.int i) v)
  have e2 := rd_int ry
  subst e1 e2
  have e3 : (if j > i then j else i) = max i j := by split <;> omega
  refine ⟨i, j, rfl, ?_⟩
  rw [e3]
  exact q _ _ _ Rl (Same.refl F) (.int _)
theorem ok_min2 : C2Ok X S (fun xs H Q => ∃ i j, xs = [.int i, .int j] ∧ Q (.int (if j < i then j else i)) H) dMin2 := fun Y A σ H δ F v u x y d Q Rl rx ry e q => by
  obtain ⟨i, j, rfl, rfl, e'⟩ := fI_some e
  cases e'
  have e1 := rd_int (.inl rx : RdP X.K F H (.int i) v)
  have e2 := rd_int ry
  subst e1 e2
  have e3 : (if j < i then j else i) = min i j := by split <;> omega
  refine ⟨i, j, rfl, ?_⟩
  rw [e3]
  exact q _ _ _ Rl (Same.refl F) (.int _)
/-! ### isinstance(e, T) -/
def dTy : D → String
  | .none => "NoneType"
  | .bool _ => "bool"
  | .int _ => "int"
  | .str _ => "str"
  | .list _ => "list"
  | .tuple _ => "tuple"
  | .dict _ => "dict"
theorem rd_tyx {K : Frg} {F H : Hp} {x : D} {v : V} (e : Same F H) (h : RdP K F H x v) : TyX K H v (.type (dTy x)) := by
  rcases h with h | ⟨a, o, c, rfl, h1, h2, rfl⟩
  · cases h with
    | non => exact .base .non
    | bl b => exact .base (.bl b)
    | int b => exact .base (.int b)
    | str b => exact .base (.str b)
    | lst h r => exact .base (.lst (e _ _ h))
    | tup h r =>
      rcases h with (h | ⟨o, h⟩) | ⟨o, its, n, hk, hc, _⟩
      · exact .base (.tup (e _ _ h))
      · exact .fTuple (e _ _ h)
      · exact .kTuple hk hc
    | dct h r => exact .base (.dK (e _ _ h))
  · cases h2 with
    | l r => exact .base (.lst h1)
    | m r => exact .base (.dK h1)
def dIsi (T : String) : D → Option D := fun x => (kitB (dTy x) T).map .bool
theorem ev_isi {T : String} {tn : Str} (h : EP X S W e ga) (hm : X.mg "isinstance" = none) (hm2 : X.mg tn = none) (hv2 : bootBuiltins tn = some (.type T)) (hg : Gl X "isinstance" := by rfl) (hg2 : Gl X tn := by rfl)
    (hn : tn ≠ "__name__" := by decide) (hdb : (tn == ("__debug__" : Str)) = false := by decide) (hs : starEach [e, .Name tn pos2] X.env = (false, eval e X.env) :: starEach [.Name tn pos2] X.env := by rfl) :
    EV X S W (.Call (.Name "isinstance" p) [e, .Name tn pos2] [] pos) (gUn (dIsi T) ga) := by
  obtain ⟨t, pe, q⟩ := h
  refine ⟨_, pe_callB call_isi hg hm (by decide +kernel) (pa_cons pe (pa_cons (pe_bltn (v := .ty T) hg2 hm2 hv2 rfl hn hdb) pa_nil) hs) (by decide) (by decide) hs, fun Y A σ H δ F Q Rl hr => ?_⟩
  refine q _ _ _ _ _ _ _ Rl (Run.bind hr fun x δ1 v H1 F1 e R1 s1 rx h1 => ?_)
  obtain ⟨d, ed, q⟩ := Run.opt h1
  unfold dIsi at ed
  cases hk : kitB (dTy x) T with
  | none =>
    rw [hk] at ed
    cases ed
  | some b =>
    rw [hk] at ed
    cases ed
    exact ⟨v, .ty T, .type (dTy x), .type T, b, rfl, .ty T, rd_tyx R1.sub rx, kit_ty hk, q _ _ _ R1 (Same.refl _) (.bl b)⟩
/-! ### items -/
theorem atI_rps {K : Frg} {F : Hp} {ds : List D} {vs : List V} {i : Int} {d : D} (r : Rps K F ds vs) (h : atI ds i = some d) : ∃ v, atI vs i = some v ∧ Rp K F d v := by
  unfold atI at h ⊢
  rw [r.length]
  cases e : ixN ds.length i with
  | none =>
    rw [e] at h
    cases h
  | some j =>
    rw [e] at h
    exact r.get h
def dIx : D → D → Option D
  | .list xs, .int i => atI xs i
  | .tuple xs, .int i => atI xs i
  | .str z, .int i => if z.length ≤ sizeLine then (atI z.cps.toList i).map fun c => .str ⟨#[c]⟩ else none
  | _, _ => none
theorem rd_ix : OpRd X S (rIx X.K) dIx := fun Y A σ H δ F v u x y d Q Rl rx ry e q => by
  cases x <;> cases y <;> simp only [dIx] at e <;> try (cases e)
  · rename_i z i
    have e2 := rd_int ry
    have e3 := rd_str rx
    subst e2 e3
    split at e
    · rename_i hz
      cases hc : atI z.cps.toList i with
      | none =>
        rw [hc] at e
        cases e
      | some c =>
        rw [hc] at e
        cases e
        exact .inr (.inr ⟨z, i, c, rfl, rfl, hz, hc, q _ (.str _)⟩)
    · cases e
  · have e2 := rd_int ry
    subst e2
    obtain ⟨a1, vs, rfl, h1, r1⟩ := rx.list Rl.sub
    obtain ⟨w, h2, h3⟩ := atI_rps r1 e
    exact .inl ⟨a1, vs, _, w, rfl, rfl, .inl (.inl h1), h2, q _ h3⟩
  · have e2 := rd_int ry
    subst e2
    obtain ⟨a1, vs, rfl, h1, r1⟩ := rx.tuple
    obtain ⟨w, h2, h3⟩ := atI_rps r1 e
    exact .inr (.inl ⟨a1, vs, _, w, rfl, rfl, sqt_same Rl.sub h1, h2, q _ h3⟩)
theorem ev_ix (ha : EV X S W a ga) (hb : EP X S W b gb) (hs : PlainIx b := by exact fun _ _ => rfl) : EV X S W (.Subscript a b pos) (gOp dIx ga gb) := by
  obtain ⟨ta, pa, qa⟩ := ha
  obtain ⟨tb, pb, qb⟩ := hb
  exact ⟨_, pe_ix ix_seq pa pb hs, opR_run rd_ix qa qb⟩
/-- found[i], found an own list -/
theorem ev_ixO (i : Nat) {x : Str} {p : Pos} (hb : EV X S W b gb) (hs : PlainIx b := by exact fun _ _ => rfl) (hN : X.N[i]? = some x := by rfl) (hv : Vis X.env.scope x := by first | exact Or.inl rfl | exact Or.inr (Or.inl rfl) | exact Or.inr (Or.inr rfl)) (hd : (x == ("__debug__" : Str)) = false := by decide)
    (hcd : (x == ("__classdict__" : Str)) = false := by decide) : EV X S W (.Subscript (.Name x p) b pos) (gOpL dIx i gb) := by
  obtain ⟨tb, pb, qb⟩ := hb
  exact ⟨_, pe_ix ix_seq (pe_var hN hv hd hcd) pb hs, opO_run rd_ix qb⟩
/-! ### the script -/
def gScr (i : Nat) : SS → R (List Int) := fun δ => match δ[i]? with
  | some (some (.q ns)) => .ok ns δ
  | _ => .bad
theorem scr_run {α β : Type} {ρ : Hp → Hp → SS → α → β → Prop} {Y : Dy} {A : Nat → Addr} {σ : L2.St} {F : Hp} {δ : SS} {i : Nat} {k : List Int → SS → R α} {Q : β → Hp → Prop} (h : Run X.K X.mg S Y A σ W ρ F ((gScr i δ).bind k) Q) :
    ∃ ns, δ[i]? = some (some (.q ns)) ∧ Run X.K X.mg S Y A σ W ρ F (k ns δ) Q := by
  unfold gScr at h
  split at h
  · rename_i ns e
    exact ⟨ns, e, h⟩
  · exact h.elim
theorem ev_scrLen (i : Nat) {x : Str} {p2 : Pos} (hm : X.mg "len" = none) (hg : Gl X "len" := by rfl) (hN : X.N[i]? = some x := by rfl) (hv : Vis X.env.scope x := by first | exact Or.inl rfl | exact Or.inr (Or.inl rfl) | exact Or.inr (Or.inr rfl)) (hd : (x == ("__debug__" : Str)) = false := by decide)
    (hcd : (x == ("__classdict__" : Str)) = false := by decide) : EV X S W (.Call (.Name "len" p) [.Name x p2] [] pos) (fun δ => (gScr i δ).bind fun ns δ1 => .ok (.int ns.length) δ1) := by
  refine ⟨_, pe_callB call_len hg hm PySem.boot_len (pa_cons (pe_var hN hv hd hcd) pa_nil), fun Y A σ H δ F Q Rl h => ?_⟩
  obtain ⟨ns, e, h⟩ := scr_run h
  obtain ⟨v, h1, b, rfl, h3⟩ := Rl.slot i _ e
  refine ⟨_, h1, _, _, rfl, .inl ⟨_, Rl.sub.seq h3, rfl⟩, ?_⟩
  rw [List.length_map]
  exact opt_run h Rl (.int _)
def gScrIx (i : Nat) (gb : SS → R D) : SS → R D := fun δ => (gScr i δ).bind fun ns δ1 => (gb δ1).bind fun y δ2 => R.opt (dIx (.list (ns.map .int)) y) δ2
theorem ev_scrIx (i : Nat) {x : Str} {p : Pos} (hb : EV X S W b gb) (hs : PlainIx b := by exact fun _ _ => rfl) (hN : X.N[i]? = some x := by rfl) (hv : Vis X.env.scope x := by first | exact Or.inl rfl | exact Or.inr (Or.inl rfl) | exact Or.inr (Or.inr rfl)) (hd : (x == ("__debug__" : Str)) = false := by decide)
    (hcd : (x == ("__classdict__" : Str)) = false := by decide) : EV X S W (.Subscript (.Name x p) b pos) (gScrIx i gb) := by
  obtain ⟨tb, pb, qb⟩ := hb
  refine ⟨_, pe_ix ix_seq (pe_var hN hv hd hcd) pb hs, fun Y A σ H δ F Q Rl h => ?_⟩
  unfold gScrIx at h
  obtain ⟨ns, e, h⟩ := scr_run h
  obtain ⟨v, h1, b, rfl, h3⟩ := Rl.slot i _ e
  refine ⟨_, h1, ?_⟩
  refine qb _ _ _ _ _ _ _ Rl (Run.bind h fun y δ2 u H2 F2 e2 R2 s2 ry h2 => ?_)
  obtain ⟨d, ed, q⟩ := Run.opt h2
  cases y <;> simp only [dIx] at ed <;> try (cases ed)
  rename_i k
  cases ry
  obtain ⟨w, g1, g2⟩ := atI_rps (Rps.of_ints (K := X.K) (F := F2) ns) ed
  exact .inl ⟨b, _, k, w, rfl, rfl, (s2.trans R2.sub).seq h3, g1, q _ _ _ R2 (Same.refl _) g2⟩
/-! ### slices -/
def gPartN : SS → R (Option Int) := fun δ => .ok none δ
def gPart (g : SS → R D) : SS → R (Option Int) := fun δ => (g δ).bind fun x δ1 => match x with
  | .int i => .ok (some i) δ1
  | _ => .bad
def OV (X : Cx) (S : Sx) (W : WX) (o : Option Expr) (g : SS → R (Option Int)) : Prop :=
  ∃ t, PO X o t ∧ ∀ Y A σ H δ F Q, Rel X.K S Y F A H σ δ → Run X.K X.mg S Y A σ W (fun _ _ _ (a b : Option Int) => a = b) F (g δ) Q → t σ H Q
theorem ov_none : OV X S W none gPartN := ⟨_, po_none, fun Y A σ H δ F Q Rl h => h _ _ _ Rl (Same.refl _) rfl⟩
theorem ov_some (h : EV X S W e ga) : OV X S W (some e) (gPart ga) := by
  obtain ⟨t, p, q⟩ := h
  refine ⟨_, po_some p, fun Y A σ H δ F Q Rl hr => q _ _ _ _ _ _ _ Rl (Run.bind hr fun x δ1 v H1 F1 _ R1 s1 rx h1 => ?_)⟩
  cases rx with
  | int i => exact ⟨i, rfl, h1 _ _ _ R1 (Same.refl _) rfl⟩
  | _ => exact h1.elim
def cutD (xs : List D) (lo hi : Option Int) : List D := (xs.drop (HT.sIx xs.length 0 lo)).take (HT.sIx xs.length xs.length hi - HT.sIx xs.length 0 lo)
theorem Rps.cut {K : Frg} {F : Hp} {ds : List D} {vs : List V} (r : Rps K F ds vs) (lo hi : Option Int) : Rps K F (cutD ds lo hi) (cutV vs lo hi) := by
  unfold cutD cutV
  rw [r.length]
  exact (r.drop _).take _
variable {lo hi : Option Expr} {gl gh : SS → R (Option Int)} {p2 : Pos}
def gSl {α : Type} (f : D → Option Int → Option Int → Option α) (ga : SS → R D) (gl gh : SS → R (Option Int)) : SS → R α := fun δ => (ga δ).bind fun x δ1 => (gl δ1).bind fun l δ2 => (gh δ2).bind fun h δ3 => R.opt (f x l h) δ3
def cSlL : D → Option Int → Option Int → Option OC
  | .list xs, l, h => some (.l (cutD xs l h))
  | _, _, _ => none
def dSlT : D → Option Int → Option Int → Option D
  | .tuple xs, l, h => some (.tuple (cutD xs l h))
  | _, _, _ => none
def dSlS : D → Option Int → Option Int → Option D
  | .str z, l, h => if z.length ≤ sizeLine then some (.str (cutS z l h)) else none
  | _, _, _ => none
theorem eo_slL (h : EV X S W e ga) (hl : OV X S W lo gl) (hh : OV X S W hi gh) : EO X S W (.Subscript e (.Slice lo hi none p2) pos) (gSl cSlL ga gl gh) := by
  obtain ⟨t, p, q⟩ := h
  obtain ⟨t1, p1, q1⟩ := hl
  obtain ⟨t2, p2, q2⟩ := hh
  refine ⟨_, pe_slice sl_list p p1 p2, fun Y A σ H δ F Q Rl hr => q _ _ _ _ _ _ _ Rl (Run.bind hr fun x δ1 v H1 F1 _ R1 s1 rx h1 => ?_)⟩
  refine q1 _ _ _ _ _ _ _ R1 (Run.bind h1 fun l δ2 l' H2 F2 _ R2 s2 e2 h2 => ?_)
  have e2' : l = l' := e2
  subst e2'
  refine q2 _ _ _ _ _ _ _ R2 (Run.bind h2 fun h δ3 h' H3 F3 _ R3 s3 e3 h3 => ?_)
  have e3' : h = h' := e3
  subst e3'
  obtain ⟨d, ed, q'⟩ := Run.opt h3
  have rx' := (rx.mono s2).mono s3
  cases rx' with
  | lst hx r =>
    cases ed
    refine ⟨_, _, rfl, .inl (.inl (R3.sub _ _ hx)), fun p hp => ?_⟩
    obtain ⟨b1, b2⟩ := rp_lst_new R3 (r.cut l h) hp
    exact q' _ _ _ b1 (Same.refl _) b2
  | _ => cases ed
theorem ev_slT (h : EV X S W e ga) (hl : OV X S W lo gl) (hh : OV X S W hi gh) : EV X S W (.Subscript e (.Slice lo hi none p2) pos) (gSl dSlT ga gl gh) := by
  obtain ⟨t, p, q⟩ := h
  obtain ⟨t1, p1, q1⟩ := hl
  obtain ⟨t2, p2, q2⟩ := hh
  refine ⟨_, pe_slice sl_tupA p p1 p2, fun Y A σ H δ F Q Rl hr => q _ _ _ _ _ _ _ Rl (Run.bind hr fun x δ1 v H1 F1 _ R1 s1 rx h1 => ?_)⟩
  refine q1 _ _ _ _ _ _ _ R1 (Run.bind h1 fun l δ2 l' H2 F2 _ R2 s2 e2 h2 => ?_)
  have e2' : l = l' := e2
  subst e2'
  refine q2 _ _ _ _ _ _ _ R2 (Run.bind h2 fun h δ3 h' H3 F3 _ R3 s3 e3 h3 => ?_)
  have e3' : h = h' := e3
  subst e3'
  obtain ⟨d, ed, q'⟩ := Run.opt h3
  have rx' := (rx.mono s2).mono s3
  cases rx' with
  | @tup a vs ds hx r =>
    cases ed
    refine ⟨_, _, rfl, sqt_same R3.sub hx, fun hw => ?_, fun _ p hp => ?_⟩
    · have ew : cutD ds l h = ds := by
        unfold cutD
        rw [r.length] at hw
        rw [hw.1, hw.2]
        simp
      rw [ew] at q'
      exact q' _ _ _ R3 (Same.refl _) (.tup hx r)
    · obtain ⟨b1, b2, b3⟩ := rp_tup_lay R3 (r.cut l h) hp
      exact q' _ _ _ b1 b2 b3
  | _ => cases ed
theorem ev_slS (h : EV X S W e ga) (hl : OV X S W lo gl) (hh : OV X S W hi gh) : EV X S W (.Subscript e (.Slice lo hi none p2) pos) (gSl dSlS ga gl gh) := by
  obtain ⟨t, p, q⟩ := h
  obtain ⟨t1, p1, q1⟩ := hl
  obtain ⟨t2, p2, q2⟩ := hh
  refine ⟨_, pe_slice sl_str p p1 p2, fun Y A σ H δ F Q Rl hr => q _ _ _ _ _ _ _ Rl (Run.bind hr fun x δ1 v H1 F1 _ R1 s1 rx h1 => ?_)⟩
  refine q1 _ _ _ _ _ _ _ R1 (Run.bind h1 fun l δ2 l' H2 F2 _ R2 s2 e2 h2 => ?_)
  have e2' : l = l' := e2
  subst e2'
  refine q2 _ _ _ _ _ _ _ R2 (Run.bind h2 fun h δ3 h' H3 F3 _ R3 s3 e3 h3 => ?_)
  have e3' : h = h' := e3
  subst e3'
  obtain ⟨d, ed, q'⟩ := Run.opt h3
  have rx' := (rx.mono s2).mono s3
  cases rx' with
  | str z =>
    by_cases hz : z.length ≤ sizeLine
    · have ed' : (if z.length ≤ sizeLine then some (PyData.str (cutS z l h)) else none) = some d := ed
      rw [if_pos hz] at ed'
      cases ed'
      exact ⟨_, rfl, hz, q' _ _ _ R3 (Same.refl _) (.str _)⟩
    · have ed' : (if z.length ≤ sizeLine then some (PyData.str (cutS z l h)) else none) = some d := ed
      rw [if_neg hz] at ed'
      cases ed'
  | _ => cases ed
/-- script[lo:hi] -/
theorem eo_scrSl (i : Nat) {x : Str} {p3 : Pos} (hl : OV X S W lo gl) (hh : OV X S W hi gh) (hN : X.N[i]? = some x := by rfl) (hv : Vis X.env.scope x := by first | exact Or.inl rfl | exact Or.inr (Or.inl rfl) | exact Or.inr (Or.inr rfl)) (hd : (x == ("__debug__" : Str)) = false := by decide)
    (hcd : (x == ("__classdict__" : Str)) = false := by decide) : EO X S W (.Subscript (.Name x p3) (.Slice lo hi none p2) pos) (gSl cSlL (fun δ => (gScr i δ).bind fun ns δ1 => .ok (.list (ns.map .int)) δ1) gl gh) := by
  obtain ⟨t1, p1, q1⟩ := hl
  obtain ⟨t2, p2, q2⟩ := hh
  refine ⟨_, pe_slice sl_list (pe_var hN hv hd hcd) p1 p2, fun Y A σ H δ F Q Rl hr => ?_⟩
  have hr' : Run X.K X.mg S Y A σ W (ρO X.K S Y A) F ((gScr i δ).bind fun ns δ1 => (gl δ1).bind fun l δ2 => (gh δ2).bind fun h δ3 => R.opt (cSlL (.list (ns.map .int)) l h) δ3) Q := by
    unfold gSl at hr
    dsimp only at hr
    cases hg : gScr i δ <;> (rw [hg] at hr; exact hr)
  obtain ⟨ns, e, hr⟩ := scr_run hr'
  obtain ⟨v, h1, b, rfl, h3⟩ := Rl.slot i _ e
  refine ⟨_, h1, ?_⟩
  refine q1 _ _ _ _ _ _ _ Rl (Run.bind hr fun l δ2 l' H2 F2 _ R2 s2 e2 h2 => ?_)
  have e2' : l = l' := e2
  subst e2'
  refine q2 _ _ _ _ _ _ _ R2 (Run.bind h2 fun h δ3 h' H3 F3 _ R3 s3 e3 h3' => ?_)
  have e3' : h = h' := e3
  subst e3'
  obtain ⟨d, ed, q'⟩ := Run.opt h3'
  cases ed
  refine ⟨_, _, rfl, ((s2.trans s3).trans R3.sub).seq h3, fun p hp => ?_⟩
  obtain ⟨b1, b2⟩ := rp_lst_new R3 ((Rps.of_ints (K := X.K) (F := F3) ns).cut l h) hp
  exact q' _ _ _ b1 (Same.refl _) b2
end
end DL
set_option Elab.async false
set_option linter.all false
set_option maxRecDepth 100000
set_option maxHeartbeats 4000000
namespace DL
open PySem PySem.Spec PyProof.Rows L2
/-! ### canonical readings -/
def tEV (K : Frg) (mg : Str → Option Value) (S : Sx) (W : WX) (g : SS → R D) : TE := fun σ H Q => ∃ Y A δ F, Rel K S Y F A H σ δ ∧ Run K mg S Y A σ W (ρD K) F (g δ) Q
def tTV (K : Frg) (mg : Str → Option Value) (S : Sx) (W : WX) (g : SS → R Bool) : TT := fun σ H Q => ∃ Y A δ F, Rel K S Y F A H σ δ ∧ Run K mg S Y A σ W ρB F (g δ) Q
theorem ev_pe {X : Cx} {S : Sx} {W : WX} {e : Expr} {g : SS → R D} (h : EV X S W e g) : PE X e (tEV X.K X.mg S W g) := by
  obtain ⟨t, p, q⟩ := h
  refine ⟨fun pins s σ H Q I hw => ?_⟩
  obtain ⟨Y, A, δ, F, Rl, hr⟩ := hw
  exact p.run pins s σ H Q I (q _ _ _ _ _ _ _ Rl hr)
theorem tv_pt {X : Cx} {S : Sx} {W : WX} {e : Expr} {g : SS → R Bool} (h : TV X S W e g) : PT X e (tTV X.K X.mg S W g) := by
  obtain ⟨t, p, q⟩ := h
  refine ⟨fun pins s σ H Q I hw => ?_⟩
  obtain ⟨Y, A, δ, F, Rl, hr⟩ := hw
  exact p.run pins s σ H Q I (q _ _ _ _ _ _ _ Rl hr)
/-! ### slots forgotten -/
@[simp] def wipeD (δ : SS) : List Nat → SS
  | [] => δ
  | v :: vs => (wipeD δ vs).set v none
theorem wipeD_some {δ : SS} {i : Nat} {x : SV} : ∀ {vs : List Nat}, (wipeD δ vs)[i]? = some (some x) → δ[i]? = some (some x) ∧ i ∉ vs
  | [], h => ⟨h, by simp⟩
  | v :: vs, h => by
    obtain ⟨h1, h2⟩ := set_none (show ((wipeD δ vs).set v none)[i]? = some (some x) from h)
    obtain ⟨h3, h4⟩ := wipeD_some h2
    exact ⟨h3, by simp only [List.mem_cons, not_or]; exact ⟨h1, h4⟩⟩
theorem wipeD_length (δ : SS) : ∀ vs : List Nat, (wipeD δ vs).length = δ.length
  | [] => rfl
  | v :: vs => by
    unfold wipeD
    rw [List.length_set, wipeD_length δ vs]
theorem wipe_get {σ : L2.St} {i : Nat} : ∀ {vs : List Nat}, i ∉ vs → (wipe σ vs)[i]? = σ[i]?
  | [], _ => rfl
  | v :: vs, h => by
    simp only [List.mem_cons, not_or] at h
    show ((wipe σ vs).set v none)[i]? = σ[i]?
    rw [List.getElem?_set_ne (fun z => h.1 z.symm), wipe_get h.2]
theorem wipe_in {σ : L2.St} {i : Nat} : ∀ {vs : List Nat}, i ∈ vs → i < σ.length → (wipe σ vs)[i]? = some none
  | v :: vs, h, hl => by
    show ((wipe σ vs).set v none)[i]? = some none
    by_cases e : v = i
    · subst e
      rw [List.getElem?_set_self (by rw [wipe_length]; exact hl)]
    · rw [List.getElem?_set_ne e]
      rcases List.mem_cons.mp h with h | h
      · exact absurd h.symm e
      · exact wipe_in h hl
theorem wipe_eq {σ σ' : L2.St} {vs : List Nat} (hl : σ'.length = σ.length) (h : ∀ j, j ∉ vs → σ'[j]? = σ[j]?) : wipe σ' vs = wipe σ vs := by
  apply List.ext_getElem?
  intro i
  by_cases hi : i ∈ vs
  · by_cases hz : i < σ.length
    · rw [wipe_in hi hz, wipe_in hi (by rw [hl]; exact hz)]
    · rw [List.getElem?_eq_none (by rw [wipe_length, hl]; omega), List.getElem?_eq_none (by rw [wipe_length]; omega)]
  · rw [wipe_get hi, wipe_get hi, h i hi]
section
variable {K : Frg} {S : Sx} {Y : Dy} {F : Hp} {A : Nat → Addr} {H : Hp} {σ : L2.St} {δ : SS}
theorem Rel.wipe (Rl : Rel K S Y F A H σ δ) (vs : List Nat) : Rel K S Y F A H (L2.wipe σ vs) (wipeD δ vs) := by
  refine ⟨Rl.sub, Rl.ntb, Rl.grow, Rl.frs, Rl.kp, Rl.tabs, by rw [wipe_length, wipeD_length]; exact Rl.len, fun i x h => ?_, fun i c h => Rl.own i c (wipeD_some h).1,
    fun i j c c' h1 h2 => Rl.inj i j c c' (wipeD_some h1).1 (wipeD_some h2).1, Rl.pin, fun i c hi h => Rl.oadr i c hi (wipeD_some h).1, Rl.opar⟩
  obtain ⟨h1, h2⟩ := wipeD_some h
  obtain ⟨v, h3, h4⟩ := Rl.slot i x h1
  exact ⟨v, by rw [wipe_get h2]; exact h3, h4⟩
/-! ### a block of its own -/
def ownSet (A : Nat → Addr) (δ : SS) : Addr → Prop := fun a => ∃ i c, δ[i]? = some (some (.o c)) ∧ A i = a
def innerY (F H : Hp) (A : Nat → Addr) (δ : SS) : Dy := ⟨H, F, A, ownSet A δ⟩
theorem Rel.enter (Rl : Rel K S Y F A H σ δ) {n : Nat} (hn : δ.length ≤ n) : Rel K ⟨S.T, n⟩ (innerY F H A δ) F A H σ δ := by
  refine ⟨Rl.sub, Rl.ntb, Same.refl F, fun b q => .inl q, Kp.refl _ _ _, Rl.tabs, Rl.len, Rl.slot, fun i c h => ⟨(Rl.own i c h).1, .inl ?_⟩, Rl.inj, fun _ _ => rfl, fun i c _ h => ⟨i, c, h, rfl⟩, fun a ⟨i, c, h, e⟩ => ?_⟩
  · exact Nat.lt_of_lt_of_le (List.getElem?_eq_some_iff.mp h).1 hn
  · show F a = none
    rw [← e]
    exact (Rl.own i c h).1
@[simp] def mg1 : Option SV → Option SV → Option SV
  | some (.o _), some (.o c) => some (.o c)
  | some (.o _), _ => none
  | a, _ => a
@[simp] def mergeD : SS → SS → SS
  | [], _ => []
  | a :: as, [] => mg1 a none :: mergeD as []
  | a :: as, b :: bs => mg1 a b :: mergeD as bs
theorem mergeD_length : ∀ (δ δ' : SS), (mergeD δ δ').length = δ.length
  | [], _ => rfl
  | a :: as, [] => by
    show (mergeD as []).length + 1 = as.length + 1
    rw [mergeD_length]
  | a :: as, b :: bs => by
    show (mergeD as bs).length + 1 = as.length + 1
    rw [mergeD_length]
theorem mergeD_some : ∀ {δ δ' : SS} {i : Nat} {x : SV}, (mergeD δ δ')[i]? = some (some x) → ∃ a, δ[i]? = some (some a) ∧ ((∃ c c', a = .o c ∧ x = .o c' ∧ δ'[i]? = some (some (.o c'))) ∨ (x = a ∧ ∀ c, a ≠ .o c))
  | [], _, _, _, h => by simp [mergeD] at h
  | a :: as, [], 0, x, h => by
    have h' : mg1 a none = some x := Option.some.inj h
    cases a with
    | none => cases h'
    | some a =>
      cases a with
      | o c => cases h'
      | d y => exact ⟨_, rfl, .inr ⟨by cases h'; rfl, fun c z => nomatch z⟩⟩
      | q y => exact ⟨_, rfl, .inr ⟨by cases h'; rfl, fun c z => nomatch z⟩⟩
      | f y => exact ⟨_, rfl, .inr ⟨by cases h'; rfl, fun c z => nomatch z⟩⟩
  | a :: as, [], i + 1, x, h => by
    obtain ⟨a', h1, h2⟩ := mergeD_some (δ := as) (δ' := []) (i := i) (show (mergeD as [])[i]? = some (some x) from h)
    refine ⟨a', h1, ?_⟩
    rcases h2 with ⟨c, c', _, _, z⟩ | h2
    · simp at z
    · exact .inr h2
  | a :: as, b :: bs, 0, x, h => by
    have h' : mg1 a b = some x := Option.some.inj h
    cases a with
    | none => cases b <;> cases h'
    | some a =>
      cases a with
      | o c =>
        cases b with
        | none => cases h'
        | some b =>
          cases b with
          | o c' => exact ⟨_, rfl, .inl ⟨c, c', rfl, by cases h'; rfl, rfl⟩⟩
          | d y => cases h'
          | q y => cases h'
          | f y => cases h'
      | d y => exact ⟨_, rfl, .inr ⟨by cases b <;> (cases h'; rfl), fun c z => nomatch z⟩⟩
      | q y => exact ⟨_, rfl, .inr ⟨by cases b <;> (cases h'; rfl), fun c z => nomatch z⟩⟩
      | f y => exact ⟨_, rfl, .inr ⟨by cases b <;> (cases h'; rfl), fun c z => nomatch z⟩⟩
  | a :: as, b :: bs, i + 1, x, h => mergeD_some (δ := as) (δ' := bs) (i := i) h
theorem Rel.leave (Rl : Rel K S Y F A H σ δ) {vs : List Nat} {n : Nat} (hn : δ.length ≤ n) {F' H' : Hp} {A' : Nat → Addr} {σ' : L2.St} {δ' : SS} (Ri : Rel K ⟨S.T, n⟩ (innerY F H A (wipeD δ vs)) F' A' H' σ' δ') : Rel K S Y F' A H' σ (mergeD δ δ') := by
  have pin : ∀ {i : Nat} {x : SV}, δ[i]? = some (some x) → A' i = A i := fun {i x} h => Ri.pin i (Nat.lt_of_lt_of_le (List.getElem?_eq_some_iff.mp h).1 hn)
  have oo : ∀ {i : Nat} {c : OC}, (mergeD δ δ')[i]? = some (some (.o c)) → (∃ c0, δ[i]? = some (some (.o c0))) ∧ δ'[i]? = some (some (.o c)) := fun {i c} h => by
    obtain ⟨a, h1, h2⟩ := mergeD_some h
    rcases h2 with ⟨c0, c', rfl, e, h3⟩ | ⟨e, h3⟩
    · cases e
      exact ⟨⟨c0, h1⟩, h3⟩
    · exact absurd e.symm (h3 c)
  refine ⟨Ri.sub, Ri.ntb, Rl.grow.trans Ri.grow, fun b q => ?_, ⟨fun b o q nO nt => ?_, fun b q => Rl.kp.dom b (Ri.kp.dom b q)⟩, Ri.tabs, by rw [mergeD_length]; exact Rl.len, fun i x h => ?_, fun i c h => ?_, fun i j c c' h1 h2 => ?_, Rl.pin, fun i c hi h => ?_, Rl.opar⟩
  · rcases Ri.frs b q with z | z
    · exact Rl.frs b z
    · exact .inr (Rl.kp.dom b z)
  · have q1 := Rl.kp.keep b o q nO nt
    refine Ri.kp.keep b o q1 (fun ⟨i, c, h1, h2⟩ => ?_) nt
    have h1' := (wipeD_some h1).1
    rcases (Rl.own i c h1').2 with z | z
    · exact nO (by rw [← h2]; exact Rl.oadr i c z h1')
    · obtain ⟨ps, y⟩ := z o (by rw [h2]; exact q)
      exact nt ps y
  · obtain ⟨a, h1, h2⟩ := mergeD_some h
    rcases h2 with ⟨c0, c', rfl, rfl, h3⟩ | ⟨rfl, h3⟩
    · obtain ⟨o, g1, _, _⟩ := Rl.own_at h1
      obtain ⟨o', _, g2, g3⟩ := Ri.own_at h3
      rw [pin h1] at g2
      exact ⟨_, g1, rfl, o', g2, g3⟩
    · obtain ⟨v, g1, g2⟩ := Rl.slot i _ h1
      refine ⟨v, g1, g2.mono Ri.grow (fun c o e q => absurd e (h3 c)) fun b od ws q => Ri.kp.keep b _ q (fun ⟨j, c, k1, k2⟩ => ?_) fun ps z => nomatch z⟩
      obtain ⟨o, _, k3, k4⟩ := Rl.own_at (wipeD_some k1).1
      have q' : H b = some (.frz od (.dK ws)) := q
      rw [k2, q'] at k3
      cases k3
      cases k4
  · obtain ⟨⟨c0, h1⟩, h2⟩ := oo h
    have g := (Ri.own i c h2).1
    rw [pin h1] at g
    exact ⟨g, (Rl.own i c0 h1).2⟩
  · obtain ⟨⟨c0, g1⟩, _⟩ := oo h1
    obtain ⟨⟨c1, g2⟩, _⟩ := oo h2
    exact Rl.inj i j _ _ g1 g2
  · obtain ⟨⟨c0, g1⟩, _⟩ := oo h
    exact Rl.oadr i c0 hi g1
/-- a fresh list is written -/
theorem Rel.wrF (Rl : Rel K S Y F A H σ δ) {p : Addr} {xs : List V} {o : HO} (fr : Fresh S Y F A H δ p) (hp : H p = some (.lst xs)) : Rel K S Y F A (upd H p o) σ δ := by
  refine ⟨fun b u q => ?_, Rl.ntb, Rl.grow, Rl.frs, ⟨fun b u q n t => ?_, fun b q => ?_⟩, fun q hq => ?_, Rl.len, fun i x h => ?_, Rl.own, Rl.inj, Rl.pin, Rl.oadr, Rl.opar⟩
  · rw [upd_ne (ne_of_none q fr.f)]
    exact Rl.sub b u q
  · rw [upd_ne fun z => by
      obtain ⟨ps, y⟩ := fr.h0 u (by rw [← z]; exact q)
      exact t ps y]
    exact Rl.kp.keep b u q n t
  · by_cases e : b = p
    · rw [e]
      exact fr.h0
    · exact Rl.kp.dom b fun o z => q o (by rw [upd_ne e]; exact z)
  · obtain ⟨ps, h1, h2, h3⟩ := Rl.tabs q hq
    refine ⟨ps, by rw [upd_ne (ne_of h1 hp fun z => nomatch z)]; exact h1, h2, fun pos cv hc => ?_⟩
    obtain ⟨cc, e1, e2⟩ := h3 pos cv hc
    exact ⟨cc, e1, by rw [upd_ne (ne_of e2 hp fun z => by cases z)]; exact e2⟩
  · obtain ⟨v, h1, h2⟩ := Rl.slot i x h
    refine ⟨v, h1, h2.mono (Same.refl F) (fun c u e q => ?_) fun b od ws q => ?_⟩
    · subst e
      rw [upd_ne (fr.ne i c h)]
      exact q
    · rw [upd_ne (ne_of q hp fun z => nomatch z)]
      exact q
end
/-! ### what is walked -/
def ItOk (K : Frg) (J : It) (items : List D) (F1 : Hp) : Prop := ∀ (S : Sx) (Y : Dy) (A : Nat → Addr) (σ : L2.St) (δ : SS) (H F : Hp) (i : Nat), Rel K S Y F A H σ δ → Same F1 F →
  (∀ d, items[i]? = some d → J.go i H ∧ ∀ x H', J.yld i H x H' → ∃ F', Rel K S Y F' A H' σ δ ∧ Same F F' ∧ Rp K F' d x) ∧ (items.length ≤ i → J.stop i H)
/-- .. while what is pinned stands -/
def ItOkP (K : Frg) (J : It) (items : List D) (F1 H1 : Hp) : Prop := ∃ P : Addr → HO → Prop, (∀ b u, P b u → H1 b = some u ∧ ∃ od ws, u = .frz od (.dK ws)) ∧ ∀ (S : Sx) (Y : Dy) (A : Nat → Addr) (σ : L2.St) (δ : SS) (H F : Hp) (i : Nat), Rel K S Y F A H σ δ → Same F1 F → (∀ b u, P b u → H b = some u) →
  (∀ d, items[i]? = some d → J.go i H ∧ ∀ x H', J.yld i H x H' → ∃ F', Rel K S Y F' A H' σ δ ∧ Same F F' ∧ Rp K F' d x) ∧ (items.length ≤ i → J.stop i H)
theorem ItOk.toP {K : Frg} {J : It} {items : List D} {F1 H1 : Hp} (h : ItOk K J items F1) : ItOkP K J items F1 H1 := ⟨fun _ _ => False, fun _ _ z => z.elim, fun S Y A σ δ H F i R s _ => h S Y A σ δ H F i R s⟩
theorem Run.imp {α β : Type} {K : Frg} {mg : Str → Option Value} {S : Sx} {Y : Dy} {A : Nat → Addr} {σ : L2.St} {W : WX} {ρ ρ' : Hp → Hp → SS → α → β → Prop} {F : Hp} {r : R α} {Q : β → Hp → Prop} (k : ∀ F' H' δ' a b, ρ' F' H' δ' a b → ρ F' H' δ' a b) (h : Run K mg S Y A σ W ρ F r Q) : Run K mg S Y A σ W ρ' F r Q := by
  cases r with
  | bad => exact h
  | ok a δ => exact fun b H' F2 R s q => h b H' F2 R s (k _ _ _ _ _ q)
  | ex c f x δ => exact h
def IVP (X : Cx) (S : Sx) (W : WX) (tg e : Expr) (g : SS → R (List D)) : Prop :=
  ∃ wi, PI X tg e wi ∧ ∀ Y A σ H δ F Q, Rel X.K S Y F A H σ δ → Run X.K X.mg S Y A σ W (fun F' H' _ items J => ItOkP X.K J items F' H') F (g δ) Q → wi σ H Q
def IV (X : Cx) (S : Sx) (W : WX) (tg e : Expr) (g : SS → R (List D)) : Prop :=
  ∃ wi, PI X tg e wi ∧ ∀ Y A σ H δ F Q, Rel X.K S Y F A H σ δ → Run X.K X.mg S Y A σ W (fun F' _ _ items J => ItOk X.K J items F') F (g δ) Q → wi σ H Q
section
variable {X : Cx} {S : Sx} {W : WX} {a b e tg : Expr} {es : List Expr} {pos p pos2 : Pos} {ga gb : SS → R D}
theorem itok_list {K : Frg} {F : Hp} {a : Addr} {vs : List V} {ds : List D} (h : F a = some (.lst vs)) (r : Rps K F ds vs) : ItOk K (Itl K a) ds F := fun S Y A σ δ H F' i Rl s => by
  have hs : SqL K H a vs := .inl (.inl (Rl.sub _ _ (s _ _ h)))
  refine ⟨fun d hd => ?_, fun hl => ⟨vs, hs, by rw [r.length]; exact hl⟩⟩
  obtain ⟨v, h1, h2⟩ := r.get hd
  exact ⟨⟨vs, v, hs, h1⟩, fun x H' ⟨e1, e2⟩ => by
    subst e1
    have e3 := e2 vs hs
    rw [h1] at e3
    cases e3
    exact ⟨F', Rl, Same.refl _, h2.mono s⟩⟩
theorem itok_tup {K : Frg} {F : Hp} {a : Addr} {vs : List V} {ds : List D} (h : SqT K F a vs) (r : Rps K F ds vs) : ItOk K (Itt K a) ds F := fun S Y A σ δ H F' i Rl s => by
  have hs : SqT K H a vs := sqt_same (s.trans Rl.sub) h
  refine ⟨fun d hd => ?_, fun hl => ⟨vs, hs, by rw [r.length]; exact hl⟩⟩
  obtain ⟨v, h1, h2⟩ := r.get hd
  exact ⟨⟨vs, v, hs, h1⟩, fun x H' ⟨e1, e2⟩ => by
    subst e1
    have e3 := e2 vs hs
    rw [h1] at e3
    cases e3
    exact ⟨F', Rl, Same.refl _, h2.mono s⟩⟩
def gItL (g : SS → R D) : SS → R (List D) := fun δ => (g δ).bind fun x δ1 => match x with
  | .list xs => .ok xs δ1
  | _ => .bad
def gItT (g : SS → R D) : SS → R (List D) := fun δ => (g δ).bind fun x δ1 => match x with
  | .tuple xs => .ok xs δ1
  | _ => .bad
theorem iv_list (h : EV X S W e ga) : IV X S W tg e (gItL ga) := by
  obtain ⟨t, p, q⟩ := h
  refine ⟨_, pi_list p, fun Y A σ H δ F Q Rl hr => q _ _ _ _ _ _ _ Rl (Run.bind hr fun x δ1 v H1 F1 _ R1 s1 rx h1 => ?_)⟩
  cases rx with
  | lst hx r => exact ⟨_, rfl, ⟨_, .inl (.inl (R1.sub _ _ hx))⟩, h1 _ _ _ R1 (Same.refl _) (itok_list hx r)⟩
  | _ => exact h1.elim
theorem iv_tup (h : EV X S W e ga) : IV X S W tg e (gItT ga) := by
  obtain ⟨t, p, q⟩ := h
  refine ⟨_, pi_tup p, fun Y A σ H δ F Q Rl hr => q _ _ _ _ _ _ _ Rl (Run.bind hr fun x δ1 v H1 F1 _ R1 s1 rx h1 => ?_)⟩
  cases rx with
  | tup hx r => exact ⟨_, rfl, ⟨_, sqt_same R1.sub hx⟩, h1 _ _ _ R1 (Same.refl _) (itok_tup hx r)⟩
  | _ => exact h1.elim
def rangeD (lo : Int) (n : Nat) : List D := (List.range n).map fun i => .int (lo + (i : Nat))
theorem itok_range {K : Frg} {F : Hp} (lo : Int) (n : Nat) : ItOk K (Itr lo n) (rangeD lo n) F := fun S Y A σ δ H F' i Rl s => by
  refine ⟨fun d hd => ?_, fun hl => show n ≤ i by simpa [rangeD] using hl⟩
  unfold rangeD at hd
  rw [List.getElem?_map] at hd
  by_cases hi : i < n
  · rw [List.getElem?_range hi] at hd
    cases hd
    exact ⟨hi, fun x H' ⟨e1, e2⟩ => by
      subst e1
      subst e2
      exact ⟨F', Rl, Same.refl _, .int _⟩⟩
  · rw [List.getElem?_eq_none (by simpa using hi)] at hd
    cases hd
def gRange1 (g : SS → R D) : SS → R (List D) := fun δ => (g δ).bind fun x δ1 => match x with
  | .int j => if -(2 ^ 62) ≤ j ∧ j < 2 ^ 62 then .ok (rangeD 0 j.toNat) δ1 else .bad
  | _ => .bad
theorem iv_range1 (h : EV X S W e ga) (hm : X.mg "range" = none) (hg : Gl X "range" := by rfl) (hs : starEach [e] X.env = [(false, eval e X.env)] := by rfl) : IV X S W tg (.Call (.Name "range" p) [e] [] pos) (gRange1 ga) := by
  obtain ⟨t, pe, q⟩ := h
  refine ⟨_, pi_range1 hg hm (pa_cons pe pa_nil (by rw [hs]; rfl)) hs, fun Y A σ H δ F Q Rl hr => q _ _ _ _ _ _ _ Rl (Run.bind hr fun x δ1 v H1 F1 _ R1 s1 rx h1 => ?_)⟩
  cases rx with
  | int j =>
    by_cases hj : -(2 ^ 62) ≤ j ∧ j < 2 ^ 62
    · have h1' : Run X.K X.mg S Y A σ W (fun F' _ _ items J => ItOk X.K J items F') F1 (if -(2 ^ 62) ≤ j ∧ j < 2 ^ 62 then .ok (rangeD 0 j.toNat) δ1 else .bad) Q := h1
      rw [if_pos hj] at h1'
      exact ⟨j, rfl, hj.1, hj.2, h1' _ _ _ R1 (Same.refl _) (itok_range 0 j.toNat)⟩
    · have h1' : Run X.K X.mg S Y A σ W (fun F' _ _ items J => ItOk X.K J items F') F1 (if -(2 ^ 62) ≤ j ∧ j < 2 ^ 62 then .ok (rangeD 0 j.toNat) δ1 else .bad) Q := h1
      rw [if_neg hj] at h1'
      exact h1'.elim
  | _ => exact h1.elim
def rng2 (i j : Int) : Prop := -(2 ^ 62) ≤ i ∧ i < 2 ^ 62 ∧ -(2 ^ 62) ≤ j ∧ j < 2 ^ 62
instance (i j : Int) : Decidable (rng2 i j) := by unfold rng2; infer_instance
def dRng : D → D → Option (List D)
  | .int i, .int j => if rng2 i j then some (rangeD i (j - i).toNat) else none
  | _, _ => none
theorem dRng_some {x y : D} {ds : List D} (h : dRng x y = some ds) : ∃ i j, x = .int i ∧ y = .int j ∧ rng2 i j ∧ ds = rangeD i (j - i).toNat := by
  cases x <;> cases y <;> simp only [dRng] at h <;> try (cases h)
  split at h
  · rename_i hz
    cases h
    exact ⟨_, _, rfl, rfl, hz, rfl⟩
  · cases h
def gBin {α : Type} (f : D → D → Option α) (ga gb : SS → R D) : SS → R α := fun δ => (ga δ).bind fun x δ1 => (gb δ1).bind fun y δ2 => R.opt (f x y) δ2
theorem iv_range2 (h : EV X S W a ga) (h2 : EV X S W b gb) (hm : X.mg "range" = none) (hg : Gl X "range" := by rfl) (hs : starEach [a, b] X.env = [(false, eval a X.env), (false, eval b X.env)] := by rfl) (hs2 : starEach [b] X.env = [(false, eval b X.env)] := by rfl) : IV X S W tg (.Call (.Name "range" p) [a, b] [] pos) (gBin dRng ga gb) := by
  obtain ⟨t, pe, q⟩ := h
  obtain ⟨t2, pe2, q2⟩ := h2
  refine ⟨_, pi_range2 hg hm (pa_cons pe (pa_cons pe2 pa_nil (by rw [hs2]; rfl)) (by rw [hs, hs2])) hs hs2, fun Y A σ H δ F Q Rl hr => q _ _ _ _ _ _ _ Rl (Run.bind hr fun x δ1 v H1 F1 _ R1 s1 rx h1 => ?_)⟩
  refine q2 _ _ _ _ _ _ _ R1 (Run.bind h1 fun y δ2 u H2 F2 _ R2 s2 ry h2 => ?_)
  obtain ⟨ds, ed, q'⟩ := Run.opt h2
  obtain ⟨i, j, rfl, rfl, hj, rfl⟩ := dRng_some ed
  cases rx
  cases ry
  exact ⟨i, j, rfl, hj, q' _ _ _ R2 (Same.refl _) (itok_range i (j - i).toNat)⟩
def signsD (z : Str) : List D := z.cps.toList.map fun c => .str ⟨#[c]⟩
def gItS (g : SS → R D) : SS → R (List D) := fun δ => (g δ).bind fun x δ1 => match x with
  | .str z => .ok (signsD z) δ1
  | _ => .bad
theorem iv_str (h : EV X S W e ga) : IV X S W tg e (gItS ga) := by
  obtain ⟨t, p, q⟩ := h
  refine ⟨_, pi_str p, fun Y A σ H δ F Q Rl hr => q _ _ _ _ _ _ _ Rl (Run.bind hr fun x δ1 v H1 F1 _ R1 s1 rx h1 => ?_)⟩
  cases rx with
  | str z =>
    refine ⟨z, rfl, h1 _ _ _ R1 (Same.refl _) fun S Y A σ δ H F' i Rl s => ⟨fun d hd => ?_, fun hl => ?_⟩⟩
    · unfold signsD at hd
      rw [List.getElem?_map, Array.getElem?_toList] at hd
      cases hc : z.cps[i]? with
      | none =>
        rw [hc] at hd
        cases hd
      | some c =>
        rw [hc] at hd
        cases hd
        refine ⟨(Array.getElem?_eq_some_iff.mp hc).1, fun x H' ⟨e1, c', e2, e3⟩ => ?_⟩
        subst e1
        rw [hc] at e2
        cases e2
        subst e3
        exact ⟨F', Rl, Same.refl _, .str _⟩
    · have : z.cps.toList.length ≤ i := by simpa [signsD] using hl
      exact this
  | _ => exact h1.elim
/-! zip of two lists or two tuples -/
def zipD (xs ys : List D) : List D := List.zipWith (fun x y => .tuple [x, y]) xs ys
def dZip : D → D → Option (List D)
  | .list xs, .list ys => some (zipD xs ys)
  | .tuple xs, .tuple ys => some (zipD xs ys)
  | _, _ => none
theorem dZip_some {x y : D} {ds : List D} (h : dZip x y = some ds) : ∃ xs ys, ds = zipD xs ys ∧ ((x = .list xs ∧ y = .list ys) ∨ (x = .tuple xs ∧ y = .tuple ys)) := by
  cases x <;> cases y <;> simp only [dZip] at h <;> cases h
  · exact ⟨_, _, rfl, .inl ⟨rfl, rfl⟩⟩
  · exact ⟨_, _, rfl, .inr ⟨rfl, rfl⟩⟩
theorem pair_lay {K : Frg} {Y : Dy} {A : Nat → Addr} {σ : L2.St} {H F : Hp} {δ : SS} {xs : List D} {vs : List V} {p : Addr} (Rl : Rel K S Y F A H σ δ) (r : Rps K F xs vs) (hp : H p = none) :
    ∃ F', Rel K S Y F' A (upd H p (.tup vs)) σ δ ∧ Same F F' ∧ Rp K F' (.tuple xs) (.ref p) := by
  have hF := Rl.sub.free hp
  exact ⟨_, Rl.lay hp (fun _ z => nomatch z), same_upd hF, .tup (.inl (.inl upd_same)) (r.mono (same_upd hF))⟩
theorem zip_get {xs ys : List D} {i : Nat} {d : D} (h : (zipD xs ys)[i]? = some d) : ∃ x y, xs[i]? = some x ∧ ys[i]? = some y ∧ d = .tuple [x, y] := by
  unfold zipD at h
  rw [List.getElem?_zipWith] at h
  cases hx : xs[i]? with
  | none =>
    rw [hx] at h
    cases h
  | some x =>
    cases hy : ys[i]? with
    | none =>
      rw [hx, hy] at h
      cases h
    | some y =>
      rw [hx, hy] at h
      cases h
      exact ⟨x, y, rfl, rfl, rfl⟩
theorem iv_zip {elts : List Expr} {kk : Nat} {tpos : Pos} (h : EV X S W a ga) (h2 : EV X S W b gb) (hm : X.mg "zip" = none) (hg : Gl X "zip" := by rfl) (hs : starEach [a, b] X.env = [(false, eval a X.env), (false, eval b X.env)] := by rfl) (hs2 : starEach [b] X.env = [(false, eval b X.env)] := by rfl) :
    IV X S W (.Tuple elts kk tpos) (.Call (.Name "zip" p) [a, b] [] pos) (gBin dZip ga gb) := by
  obtain ⟨t, pe, q⟩ := h
  obtain ⟨t2, pe2, q2⟩ := h2
  refine ⟨_, RZ.pi_zipA hg hm (pa_cons pe (pa_cons pe2 pa_nil (by rw [hs2]; rfl)) (by rw [hs, hs2])) (by rw [hs, hs2]) (by rw [hs2]; rfl), fun Y A σ H δ F Q Rl hr => q _ _ _ _ _ _ _ Rl (Run.bind hr fun x δ1 v H1 F1 _ R1 s1 rx h1 => ?_)⟩
  refine q2 _ _ _ _ _ _ _ R1 (Run.bind h1 fun y δ2 u H2 F2 _ R2 s2 ry h2 => ?_)
  obtain ⟨ds, ed, q'⟩ := Run.opt h2
  obtain ⟨xs, ys, rfl, ⟨rfl, rfl⟩ | ⟨rfl, rfl⟩⟩ := dZip_some ed
  · cases rx with
    | lst hx r =>
    cases ry with
    | lst hy r2 =>
    have hx' := s2 _ _ hx
    have r' := r.mono s2
    refine ⟨_, _, _, _, rfl, .inl ⟨.inl (.inl (R2.sub _ _ hx')), .inl (.inl (R2.sub _ _ hy)), q' _ _ _ R2 (Same.refl _) fun S Y A σ δ H F' i Rl s => ?_⟩⟩
    have k1 : SqL X.K H _ _ := .inl (.inl (Rl.sub _ _ (s _ _ hx')))
    have k2 : SqL X.K H _ _ := .inl (.inl (Rl.sub _ _ (s _ _ hy)))
    refine ⟨fun d hd => ?_, fun hl => ⟨_, _, k1, k2, ?_⟩⟩
    · obtain ⟨x, y, g1, g2, rfl⟩ := zip_get hd
      obtain ⟨v, h3, h4⟩ := r'.get g1
      obtain ⟨u, h5, h6⟩ := r2.get g2
      refine ⟨⟨_, _, _, _, k1, k2, h3, h5⟩, fun w H' ⟨T, x', y', e1, e2, e3, e4, e5⟩ => ?_⟩
      subst e1 e3
      have z1 := e4 _ k1
      have z2 := e5 _ k2
      rw [h3] at z1
      rw [h5] at z2
      cases z1
      cases z2
      exact pair_lay Rl (.cons (h4.mono s) (.cons (h6.mono s) .nil)) e2
    · rw [r'.length, r2.length]
      simp only [zipD, List.length_zipWith] at hl
      omega
  · cases rx with
    | tup hx r =>
    cases ry with
    | tup hy r2 =>
    have hx' := sqt_same s2 hx
    have r' := r.mono s2
    refine ⟨_, _, _, _, rfl, .inr ⟨sqt_same R2.sub hx', sqt_same R2.sub hy, q' _ _ _ R2 (Same.refl _) fun S Y A σ δ H F' i Rl s => ?_⟩⟩
    have k1 : SqT X.K H _ _ := sqt_same (s.trans Rl.sub) hx'
    have k2 : SqT X.K H _ _ := sqt_same (s.trans Rl.sub) hy
    refine ⟨fun d hd => ?_, fun hl => ⟨_, _, k1, k2, ?_⟩⟩
    · obtain ⟨x, y, g1, g2, rfl⟩ := zip_get hd
      obtain ⟨v, h3, h4⟩ := r'.get g1
      obtain ⟨u, h5, h6⟩ := r2.get g2
      refine ⟨⟨_, _, _, _, k1, k2, h3, h5⟩, fun w H' ⟨T, x', y', e1, e2, e3, e4, e5⟩ => ?_⟩
      subst e1 e3
      have z1 := e4 _ k1
      have z2 := e5 _ k2
      rw [h3] at z1
      rw [h5] at z2
      cases z1
      cases z2
      exact pair_lay Rl (.cons (h4.mono s) (.cons (h6.mono s) .nil)) e2
    · rw [r'.length, r2.length]
      simp only [zipD, List.length_zipWith] at hl
      omega
/-! enumerate of a list -/
def enumD (xs : List D) : List D := xs.zipIdx.map fun p => .tuple [.int (p.2 : Nat), p.1]
theorem enum_get {xs : List D} {i : Nat} {d : D} (h : (enumD xs)[i]? = some d) : ∃ x, xs[i]? = some x ∧ d = .tuple [.int (i : Nat), x] := by
  unfold enumD at h
  rw [List.getElem?_map, List.getElem?_zipIdx] at h
  cases hx : xs[i]? with
  | none =>
    rw [hx] at h
    cases h
  | some x =>
    rw [hx] at h
    cases h
    exact ⟨x, rfl, by simp⟩
theorem iv_enumL {elts : List Expr} {kk : Nat} {tpos : Pos} (h : EV X S W e ga) (hm : X.mg "enumerate" = none) (hg : Gl X "enumerate" := by rfl) (hs : starEach [e] X.env = [(false, eval e X.env)] := by rfl) :
    IV X S W (.Tuple elts kk tpos) (.Call (.Name "enumerate" p) [e] [] pos) (fun δ => (gItL ga δ).bind fun xs δ1 => .ok (enumD xs) δ1) := by
  obtain ⟨t, pe, q⟩ := h
  refine ⟨_, pi_enum hg hm (pa_cons pe pa_nil (by rw [hs]; rfl)) hs, fun Y A σ H δ F Q Rl hr => ?_⟩
  have hr' : Run X.K X.mg S Y A σ W (fun F' _ _ items J => ItOk X.K J items F') F ((ga δ).bind fun x δ1 => (match x with | .list xs => (.ok xs δ1 : R (List D)) | _ => .bad).bind fun xs δ1 => .ok (enumD xs) δ1) Q := by
    unfold gItL at hr
    dsimp only at hr
    cases hg : ga δ <;> (rw [hg] at hr; exact hr)
  refine q _ _ _ _ _ _ _ Rl (Run.bind hr' fun x δ1 v H1 F1 _ R1 s1 rx h1 => ?_)
  cases rx with
  | lst hx r =>
    refine ⟨_, _, rfl, .inl (.inl (R1.sub _ _ hx)), h1 _ _ _ R1 (Same.refl _) fun S Y A σ δ H F' i Rl s => ?_⟩
    have k1 : SqL X.K H _ _ := .inl (.inl (Rl.sub _ _ (s _ _ hx)))
    refine ⟨fun d hd => ?_, fun hl => ⟨_, k1, ?_⟩⟩
    · obtain ⟨x, g1, rfl⟩ := enum_get hd
      obtain ⟨v, h3, h4⟩ := r.get g1
      refine ⟨⟨_, _, k1, h3⟩, fun w H' ⟨T, x', e1, e2, e3, e4⟩ => ?_⟩
      subst e1 e3
      have z1 := e4 _ k1
      rw [h3] at z1
      cases z1
      exact pair_lay Rl (.cons (.int _) (.cons (h4.mono s) .nil)) e2
    · rw [r.length]
      simpa [enumD] using hl
  | _ => exact h1.elim
end
/-! ### targets -/
def GV (X : Cx) (S : Sx) (vs : List Nat) (tg : Expr) (f : D → SS → Option SS) : Prop :=
  ∃ t, PG X tg t ∧ ∀ Y A σ H δ F d v δ' Q, Rel X.K S Y F A H σ δ → Rp X.K F d v → f d δ = some δ' → (∀ σ', Rel X.K S Y F A H σ' δ' → σ'.length = σ.length → (∀ j, j ∉ vs → σ'[j]? = σ[j]?) → Q σ' H) → t v σ H Q
def GVs (X : Cx) (S : Sx) (vs : List Nat) (tgs : List Expr) (f : List D → SS → Option SS) : Prop :=
  ∃ t, PGs X tgs t ∧ ∀ Y A σ H δ F ds us δ' Q, Rel X.K S Y F A H σ δ → Rps X.K F ds us → f ds δ = some δ' → (∀ σ', Rel X.K S Y F A H σ' δ' → σ'.length = σ.length → (∀ j, j ∉ vs → σ'[j]? = σ[j]?) → Q σ' H) → t us σ H Q
def tEG (K : Frg) (S : Sx) (vs : List Nat) (f : D → SS → Option SS) : TG := fun v σ H Q => ∃ Y A δ F d δ', Rel K S Y F A H σ δ ∧ Rp K F d v ∧ f d δ = some δ' ∧ ∀ σ', Rel K S Y F A H σ' δ' → σ'.length = σ.length → (∀ j, j ∉ vs → σ'[j]? = σ[j]?) → Q σ' H
theorem gv_pg {X : Cx} {S : Sx} {vs : List Nat} {tg : Expr} {f : D → SS → Option SS} (h : GV X S vs tg f) : PG X tg (tEG X.K S vs f) := by
  obtain ⟨t, p, q⟩ := h
  refine ⟨fun pins s σ H v u Q I r hw => ?_⟩
  obtain ⟨Y, A, δ, F, d, δ', Rl, rp, e, hq⟩ := hw
  exact p.run pins s σ H v u Q I r (q _ _ _ _ _ _ _ _ _ _ Rl rp e hq)
section
variable {X : Cx} {S : Sx} {W : WX} {pos : Pos}
def fName (i : Nat) : D → SS → Option SS := fun d δ => some (δ.set i (some (.d d)))
theorem gv_name (i : Nat) {vs : List Nat} {x : Str} (hN : X.N.Nodup) (hv : i ∈ vs := by decide) (hi : X.N[i]? = some x := by rfl) (hx : Loc X.env.scope x := by first | exact .inl rfl | exact .inr rfl) (hf : X.fn x = true ∨ X.env.scope.names.lookup x = some .local := by first | exact .inl rfl | exact .inr rfl | assumption) : GV X S vs (.Name x pos) (fName i) := by
  refine ⟨_, pg_name hN hi hx hf, fun Y A σ H δ F d v δ' Q Rl r e hq => ?_⟩
  cases e
  exact hq _ (Rl.setD r) (List.length_set ..) fun j hj => List.getElem?_set_ne (fun z => hj (by rw [← z]; exact hv))
def fNil : List D → SS → Option SS := fun ds δ => match ds with
  | [] => some δ
  | _ => none
def fCons (f : D → SS → Option SS) (fs : List D → SS → Option SS) : List D → SS → Option SS := fun ds δ => match ds with
  | d :: r => (f d δ).bind fun δ1 => fs r δ1
  | [] => none
def fTup (n : Nat) (fs : List D → SS → Option SS) : D → SS → Option SS := fun d δ => match d with
  | .tuple ds => if ds.length = n then fs ds δ else none
  | _ => none
theorem gvs_nil {vs : List Nat} : GVs X S vs [] fNil := by
  refine ⟨_, pgs_nil, fun Y A σ H δ F ds us δ' Q Rl r e hq => ?_⟩
  cases ds with
  | nil =>
    cases r
    cases e
    exact ⟨rfl, hq σ Rl rfl fun _ _ => rfl⟩
  | cons d r => cases e
theorem gvs_cons {vs : List Nat} {e : Expr} {es : List Expr} {f : D → SS → Option SS} {fs : List D → SS → Option SS} (h1 : GV X S vs e f) (h2 : GVs X S vs es fs)
    (hs : (assignEach (e :: es) X.env).map (·.2) = assign e X.env :: (assignEach es X.env).map (·.2) := by rfl) : GVs X S vs (e :: es) (fCons f fs) := by
  obtain ⟨t, p, q⟩ := h1
  obtain ⟨t2, p2, q2⟩ := h2
  refine ⟨_, pgs_cons p p2 hs, fun Y A σ H δ F ds us δ' Q Rl r e hq => ?_⟩
  cases ds with
  | nil => cases e
  | cons d ds =>
    cases r with
    | cons rd rr =>
      have e' : (f d δ).bind (fun δ1 => fs ds δ1) = some δ' := e
      cases ef : f d δ with
      | none =>
        rw [ef] at e'
        cases e'
      | some δ1 =>
        rw [ef] at e'
        exact ⟨_, _, rfl, q _ _ _ _ _ _ _ _ _ _ Rl rd ef fun σ1 R1 l1 k1 => q2 _ _ _ _ _ _ _ _ _ _ R1 rr e' fun σ2 R2 l2 k2 => hq σ2 R2 (l2.trans l1) fun j hj => (k2 j hj).trans (k1 j hj)⟩
theorem gv_tup {vs : List Nat} {es : List Expr} {k n : Nat} {fs : List D → SS → Option SS} (hc : X.calm = true) (h : GVs X S vs es fs) (hn : (assignEach es X.env).length = n := by rfl) (hst : (assignEach es X.env).findIdx? (·.1) = none := by rfl) : GV X S vs (.Tuple es k pos) (fTup n fs) := by
  obtain ⟨t, p, q⟩ := h
  refine ⟨_, pg_tup hc p hn hst, fun Y A σ H δ F d v δ' Q Rl r e hq => ?_⟩
  cases r with
  | @tup a xs ds hx rr =>
    have e' : (if ds.length = n then fs ds δ else none) = some δ' := e
    by_cases hl : ds.length = n
    · rw [if_pos hl] at e'
      exact ⟨a, xs, rfl, sqt_same Rl.sub hx, by rw [rr.length]; exact hl, q _ _ _ _ _ _ _ _ _ _ Rl rr e' hq⟩
    · rw [if_neg hl] at e'
      cases e'
  | _ => cases e
end
/-! ### comprehensions -/
def W0 : WX := fun _ _ _ _ => False
def lcLoop (vs : List Nat) (tg : D → SS → Option SS) (tt : SS → R Bool) (te : SS → R D) : List D → List D → SS → R OC
  | [], ys, δ => .ok (.l ys) δ
  | d :: ds, ys, δ => match tg d (wipeD δ vs) with
    | none => .bad
    | some δ1 => match tt δ1 with
      | .ok true δ2 => (match te δ2 with
        | .ok y δ3 => if ys.length < sizeLine then lcLoop vs tg tt te ds (ys ++ [y]) (mergeD δ δ3) else .bad
        | _ => .bad)
      | .ok false δ2 => lcLoop vs tg tt te ds ys (mergeD δ δ2)
      | _ => .bad
def gLc (vs : List Nat) (src : SS → R (List D)) (tg : D → SS → Option SS) (tt : SS → R Bool) (te : SS → R D) : SS → R OC := fun δ => (src δ).bind fun items δ1 => lcLoop vs tg tt te items [] δ1
def gYes : SS → R Bool := fun δ => .ok true δ
section
variable {X : Cx} {S : Sx} {W : WX} {n : Nat} {vs : List Nat} {src : SS → R (List D)} {ftg : D → SS → Option SS} {gt : SS → R Bool} {ge : SS → R D}
/-- the reading of a comprehension -/
theorem lc_run {wi : TI} (hn : n = X.N.length)
    (qi : ∀ Y A σ H δ F Q, Rel X.K S Y F A H σ δ → Run X.K X.mg S Y A σ W (fun F' H' _ items J => ItOkP X.K J items F' H') F (src δ) Q → wi σ H Q) :
    ∀ Y A σ H δ F Q, σ.length = n → Rel X.K S Y F A H σ δ → Run X.K X.mg S Y A σ W (ρO X.K S Y A) F (gLc vs src ftg gt ge δ) Q →
      tLc wi (tEG X.K ⟨S.T, n⟩ vs ftg) (tTV X.K X.mg ⟨S.T, n⟩ W0 gt) (tEV X.K X.mg ⟨S.T, n⟩ W0 ge) vs σ H Q := fun Y A σ H δ F Q hσ Rl hr => by
  refine qi _ _ _ _ _ _ _ Rl (Run.bind hr fun items δ1 J H1 F1 _ R1 s1 ok h1 => ?_)
  intro p hD
  obtain ⟨P, hP, ok⟩ := ok
  have fr := R1.fresh hD
  have pinU : ∀ {H2 H5 : Hp} {δ2 : SS} {F2 F5 : Hp} {σ5 : L2.St} {δ5 : SS}, Rel X.K S Y F2 A H2 σ δ2 → (∀ b u, P b u → H2 b = some u) → Rel X.K ⟨S.T, n⟩ (innerY F2 H2 A (wipeD δ2 vs)) F5 A H5 σ5 δ5 → ∀ b u, P b u → H5 b = some u := fun {H2 H5 δ2 F2 F5 σ5 δ5} R2 hp R5 b u hb => by
    obtain ⟨_, od, ws, rfl⟩ := hP b u hb
    refine R5.kp.keep b _ (hp b _ hb) (fun ⟨j, c, g1, g2⟩ => ?_) fun ps z => nomatch z
    obtain ⟨o, _, k3, k4⟩ := R2.own_at (wipeD_some g1).1
    rw [g2, hp b _ hb] at k3
    cases k3
    cases k4
  have pinD : ∀ {H5 : Hp} {xs ys : List V}, (∀ b u, P b u → H5 b = some u) → H5 p = some (.lst xs) → ∀ b u, P b u → upd H5 p (.lst ys) b = some u := fun {H5 xs ys} hp h5 b u hb => by
    obtain ⟨_, od, ws, rfl⟩ := hP b u hb
    rw [upd_ne fun z => by
      have := hp b _ hb
      rw [z, h5] at this
      cases this]
    exact hp b _ hb
  refine ⟨fun i m H => m = items.length - i ∧ i ≤ items.length ∧ (∀ b u, P b u → H b = some u) ∧ ∃ F2 δ2 acc ys, Rel X.K S Y F2 A H σ δ2 ∧ Same F1 F2 ∧ H p = some (.lst acc) ∧ Rps X.K F2 ys acc ∧ Fresh S Y F2 A H δ2 p ∧ Run X.K X.mg S Y A σ W (ρO X.K S Y A) F2 (lcLoop vs ftg gt ge (items.drop i) ys δ2) Q,
    ⟨_, rfl, Nat.zero_le _, fun b u hb => by
      rw [upd_ne (ne_of_none (hP b u hb).1 hD)]
      exact (hP b u hb).1, F1, δ1, [], [], R1.laid hD, Same.refl _, upd_same, .nil, ⟨fr.f, fr.h0, fr.ne⟩, h1⟩, ?_⟩
  rintro i m H2 ⟨rfl, hi, hp2, F2, δ2, acc, ys, R2, s2, hacc, rys, fr2, h2⟩
  have hlen : δ2.length = n := by rw [← R2.len]; exact hσ
  by_cases hlt : i < items.length
  · -- a turn
    obtain ⟨d, hd⟩ : ∃ d, items[i]? = some d := ⟨_, List.getElem?_eq_getElem hlt⟩
    have hdrop : items.drop i = d :: items.drop (i + 1) := by
      rw [List.drop_eq_getElem_cons hlt]
      rw [List.getElem?_eq_getElem hlt] at hd
      cases hd
      rfl
    rw [hdrop] at h2
    have Rw := R2.wipe vs
    have Ri := Rw.enter (n := n) (by rw [wipeD_length, hlen]; exact Nat.le_refl n)
    obtain ⟨go, yl⟩ := (ok _ _ _ _ _ _ _ i Ri s2 hp2).1 d hd
    refine .inr ⟨go, fun H' => ∃ m', m' < items.length - i ∧ m' = items.length - (i + 1) ∧ i + 1 ≤ items.length ∧ (∀ b u, P b u → H' b = some u) ∧ ∃ F2 δ2 acc ys, Rel X.K S Y F2 A H' σ δ2 ∧ Same F1 F2 ∧ H' p = some (.lst acc) ∧ Rps X.K F2 ys acc ∧ Fresh S Y F2 A H' δ2 p ∧ Run X.K X.mg S Y A σ W (ρO X.K S Y A) F2 (lcLoop vs ftg gt ge (items.drop (i + 1)) ys δ2) Q,
      fun H' ⟨m', q1, q2, q3, q4⟩ => ⟨m', q1, q2, q3, q4⟩, fun x H3 hy => ?_⟩
    obtain ⟨F3, R3, s3, rx⟩ := yl x H3 hy
    unfold lcLoop at h2
    cases etg : ftg d (wipeD δ2 vs) with
    | none =>
      rw [etg] at h2
      exact h2.elim
    | some δ3 =>
      rw [etg] at h2
      dsimp only at h2
      -- what a turn's end is
      have fin : ∀ {F5 H5 : Hp} {δ5 : SS} {σ5 : L2.St} {zs : List D} {ac : List V} {o : List V}, Rel X.K ⟨S.T, n⟩ (innerY F2 H2 A (wipeD δ2 vs)) F5 A H5 σ5 δ5 → Same F2 F5 → Rps X.K F5 zs ac → Run X.K X.mg S Y A σ W (ρO X.K S Y A) F5 (lcLoop vs ftg gt ge (items.drop (i + 1)) zs (mergeD δ2 δ5)) Q →
          H5 p = some (.lst o) → (∃ m', m' < items.length - i ∧ m' = items.length - (i + 1) ∧ i + 1 ≤ items.length ∧ (∀ b u, P b u → upd H5 p (.lst ac) b = some u) ∧ ∃ F2 δ2 acc ys, Rel X.K S Y F2 A (upd H5 p (.lst ac)) σ δ2 ∧ Same F1 F2 ∧ (upd H5 p (.lst ac)) p = some (.lst acc) ∧ Rps X.K F2 ys acc ∧ Fresh S Y F2 A (upd H5 p (.lst ac)) δ2 p ∧ Run X.K X.mg S Y A σ W (ρO X.K S Y A) F2 (lcLoop vs ftg gt ge (items.drop (i + 1)) ys δ2) Q) := fun {F5 H5 δ5 σ5 zs ac o} R5 s5 rz hrun hD5 => by
        have RL := R2.leave (by rw [hlen]; exact Nat.le_refl n) R5
        have frD : Fresh S Y F5 A H5 (mergeD δ2 δ5) p := by
          refine ⟨?_, fr2.h0, fun j c hj => ?_⟩
          · cases hq : F5 p with
            | none => rfl
            | some u =>
              rcases R5.frs p (by rw [hq]; simp) with z | z
              · exact absurd fr2.f z
              · obtain ⟨ps, y⟩ := (show NT H2 p from z) _ hacc
                cases y
          · obtain ⟨a, g1, g2⟩ := mergeD_some hj
            rcases g2 with ⟨c0, c', rfl, _, _⟩ | ⟨e, g3⟩
            · exact fr2.ne j _ g1
            · exact absurd e.symm (g3 c)
        exact ⟨_, by omega, rfl, hlt, pinD (pinU R2 hp2 R5) hD5, F5, mergeD δ2 δ5, ac, zs, RL.wrF frD hD5, s2.trans s5, upd_same, rz, ⟨frD.f, frD.h0, frD.ne⟩, hrun⟩
      have keepD : ∀ {F5 H5 : Hp} {δ5 : SS} {σ5 : L2.St}, Rel X.K ⟨S.T, n⟩ (innerY F2 H2 A (wipeD δ2 vs)) F5 A H5 σ5 δ5 → H5 p = some (.lst acc) := fun {F5 H5 δ5 σ5} R5 =>
        R5.kp.keep p _ hacc (fun ⟨j, c, g1, g2⟩ => fr2.ne j c (wipeD_some g1).1 g2) fun ps z => nomatch z
      refine ⟨_, _, _, _, d, δ3, R3, rx, etg, fun σ4 R4 l4 k4 => ⟨wipe_eq (l4.trans (wipe_length σ vs)) (fun j hj => (k4 j hj).trans (wipe_get hj)), ?_⟩⟩
      cases ett : gt δ3 with
      | bad =>
        rw [ett] at h2
        exact h2.elim
      | ex c f x δ4 =>
        rw [ett] at h2
        exact h2.elim
      | ok bb δ4 =>
        rw [ett] at h2
        refine ⟨_, _, _, _, R4, ?_⟩
        rw [ett]
        intro b2 H5 F5 R5 s5 eb
        have eb' : bb = b2 := eb
        subst eb'
        cases bb with
        | false =>
          refine iteF ?_
          have h2' : Run X.K X.mg S Y A σ W (ρO X.K S Y A) F2 (lcLoop vs ftg gt ge (items.drop (i + 1)) ys (mergeD δ2 δ4)) Q := h2
          have hD5 := keepD R5
          have z := fin R5 (s3.trans s5) (rys.mono (s3.trans s5)) (Run.weak h2' (s3.trans s5)) hD5
          have eu : upd H5 p (.lst acc) = H5 := by
            funext b
            unfold upd
            split
            · rename_i e
              rw [e, hD5]
            · rfl
          rw [eu] at z
          exact z
        | true =>
          refine iteT ?_
          cases ete : ge δ4 with
          | bad =>
            simp only [ete] at h2
            exact h2.elim
          | ex c f x δ5 =>
            simp only [ete] at h2
            exact h2.elim
          | ok y δ5 =>
            simp only [ete] at h2
            by_cases hz : ys.length < sizeLine
            · rw [if_pos hz] at h2
              refine ⟨_, _, _, _, R5, ?_⟩
              rw [ete]
              intro w H6 F6 R6 s6 ry
              have hD6 := keepD R6
              refine ⟨acc, hD6, by rw [rys.length]; exact hz, ?_⟩
              have st := (s3.trans s5).trans s6
              exact fin R6 st ((rys.mono st).append (.cons ry .nil)) (Run.weak h2 st) hD6
            · rw [if_neg hz] at h2
              exact h2.elim
  · -- the end
    have e : i = items.length := by omega
    refine .inl ⟨(ok _ _ _ _ _ _ _ i R2 s2 hp2).2 (by omega), ?_⟩
    rw [e, List.drop_length] at h2
    exact h2 _ _ _ R2 (Same.refl _) ⟨p, _, rfl, hacc, .l rys, fr2⟩
variable {elt tg iter : Expr} {scope : Scope} {own : List (Str × Nat)} {pos : Pos}
/-- a clause's tests -/
def PTV (X : Cx) (S : Sx) (W : WX) (ifs : List Expr) (g : SS → R Bool) : Prop := PTs X ifs (tTV X.K X.mg S W g)
theorem ptv_nil : PTV X S W [] gYes := ⟨fun pins s σ H Q I hw => by
  obtain ⟨Y, A, δ, F, Rl, hr⟩ := hw
  exact (pts_nil (X := X)).run pins s σ H Q I (hr _ _ _ Rl (Same.refl _) rfl)⟩
theorem ptv_one {c : Expr} {g : SS → R Bool} (h : TV X S W c g) : PTV X S W [c] g := pts_one (tv_pt h)
theorem inv_len {pins : List (Addr × Obj)} {σ : L2.St} {H : Hp} {s : Shared} (I : Inv X pins σ H s) : σ.length = X.N.length := I.len
theorem pe_len {e : Expr} {t : TE} {t' : TE} (h : PE X e t) (k : ∀ σ H Q, σ.length = X.N.length → t' σ H Q → t σ H Q) : PE X e t' := ⟨fun pins s σ H Q I hw => h.run pins s σ H Q I (k σ H Q I.len hw)⟩
/-- [elt for tg in iter if ..] -/
theorem eo_lcP {ifs : List Expr} (hc : X.calm = true) (hN : X.N.Nodup) (hn : X.N.length = n) (hi : IVP X S W tg iter src) (ok : BlkOk X.N X.env.scope scope own)
    (hg : ∀ (s : Shared) (H : Hp) (C : Addr) (cl : List (Str × Addr)) (fp : List Addr), GV (X.blk s H scope (compEnvC scope cl C X.env) fp) ⟨S.T, n⟩ (own.map (·.2)) tg ftg)
    (ht : ∀ (s : Shared) (H : Hp) (C : Addr) (cl : List (Str × Addr)) (fp : List Addr), PTV (X.blk s H scope (compEnvC scope cl C X.env) fp) ⟨S.T, n⟩ W0 ifs gt)
    (he : ∀ (s : Shared) (H : Hp) (C : Addr) (cl : List (Str × Addr)) (fp : List Addr), EV (X.blk s H scope (compEnvC scope cl C X.env) fp) ⟨S.T, n⟩ W0 elt ge) (hs : ∀ x, foldedSetIterable iter X.env x = pure x := by intro _; rfl) :
    EO X S W (.ListComp elt [⟨tg, iter, ifs, 0⟩] scope pos) (gLc (own.map (·.2)) src ftg gt ge) := by
  obtain ⟨wi, pi, qi⟩ := hi
  have P := pe_lc (pos := pos) (g := tEG X.K ⟨S.T, n⟩ (own.map (·.2)) ftg) (tt := tTV X.K X.mg ⟨S.T, n⟩ W0 gt) (te := tEV X.K X.mg ⟨S.T, n⟩ W0 ge) hc hN pi ok (fun s H C cl fp => gv_pg (hg s H C cl fp)) (fun s H C cl fp => ht s H C cl fp) (fun s H C cl fp => ev_pe (he s H C cl fp)) hs
  refine ⟨fun σ H Q => ∃ Y A δ F, Rel X.K S Y F A H σ δ ∧ Run X.K X.mg S Y A σ W (ρO X.K S Y A) F (gLc (own.map (·.2)) src ftg gt ge δ) Q, pe_len P fun σ H Q hl hw => ?_, fun Y A σ H δ F Q Rl hr => ⟨Y, A, δ, F, Rl, hr⟩⟩
  obtain ⟨Y, A, δ, F, Rl, hr⟩ := hw
  exact lc_run hn.symm qi Y A σ H δ F Q (hl.trans hn) Rl hr
theorem IV.toP (h : IV X S W tg iter src) : IVP X S W tg iter src := by
  obtain ⟨wi, pi, qi⟩ := h
  exact ⟨wi, pi, fun Y A σ H δ F Q Rl hr => qi _ _ _ _ _ _ _ Rl (Run.imp (fun _ _ _ _ _ q => ItOk.toP q) hr)⟩
theorem eo_lc {ifs : List Expr} (hc : X.calm = true) (hN : X.N.Nodup) (hn : X.N.length = n) (hi : IV X S W tg iter src) (ok : BlkOk X.N X.env.scope scope own)
    (hg : ∀ (s : Shared) (H : Hp) (C : Addr) (cl : List (Str × Addr)) (fp : List Addr), GV (X.blk s H scope (compEnvC scope cl C X.env) fp) ⟨S.T, n⟩ (own.map (·.2)) tg ftg)
    (ht : ∀ (s : Shared) (H : Hp) (C : Addr) (cl : List (Str × Addr)) (fp : List Addr), PTV (X.blk s H scope (compEnvC scope cl C X.env) fp) ⟨S.T, n⟩ W0 ifs gt)
    (he : ∀ (s : Shared) (H : Hp) (C : Addr) (cl : List (Str × Addr)) (fp : List Addr), EV (X.blk s H scope (compEnvC scope cl C X.env) fp) ⟨S.T, n⟩ W0 elt ge) (hs : ∀ x, foldedSetIterable iter X.env x = pure x := by intro _; rfl) :
    EO X S W (.ListComp elt [⟨tg, iter, ifs, 0⟩] scope pos) (gLc (own.map (·.2)) src ftg gt ge) := eo_lcP hc hN hn hi.toP ok hg ht he hs
end
end DL
set_option Elab.async false
set_option linter.all false
set_option maxRecDepth 100000
set_option maxHeartbeats 4000000
namespace DL
open PySem PySem.Spec PyProof.Rows L2
/-! ### statements -/
inductive RV where
  | d (x : D)
  | o (c : OC)
@[simp] def RV.toD : RV → D
  | .d x => x
  | .o c => c.toD
inductive Fl where
  | nx | bk | ct
  | rt (r : RV)
def RvR (K : Frg) (S : Sx) (Y : Dy) (A : Nat → Addr) (F H : Hp) (δ : SS) : RV → V → Prop
  | .d x, v => Rp K F x v
  | .o c, v => ρO K S Y A F H δ c v
def RunS (K : Frg) (mg : Str → Option Value) (S : Sx) (Y : Dy) (W : WX) (F : Hp) (E : Ends) (r : R Fl) : Prop :=
  match r with
  | .bad => False
  | .ok .nx δ' => ∀ σ' H' F' A', Rel K S Y F' A' H' σ' δ' → Same F F' → E.nx σ' H'
  | .ok .bk δ' => ∀ σ' H' F' A', Rel K S Y F' A' H' σ' δ' → Same F F' → E.bk σ' H'
  | .ok .ct δ' => ∀ σ' H' F' A', Rel K S Y F' A' H' σ' δ' → Same F F' → E.ct σ' H'
  | .ok (.rt r) δ' => ∀ v σ' H' F' A', Rel K S Y F' A' H' σ' δ' → Same F F' → RvR K S Y A' F' H' δ' r v → E.rt v H'
  | .ex c f x δ' => ∀ cls dd σ' H' F' A', Rel K S Y F' A' H' σ' δ' → Same F F' → ExR K mg F' H' c f x cls dd → W cls dd σ' H'
section
variable {K : Frg} {mg : Str → Option Value} {S : Sx} {Y : Dy} {W : WX} {F F' : Hp}
theorem RunS.weak {E : Ends} {r : R Fl} (h : RunS K mg S Y W F E r) (e : Same F F') : RunS K mg S Y W F' E r := by
  cases r with
  | bad => exact h
  | ok a δ =>
    cases a with
    | nx => exact fun σ' H' F2 A' R s => h σ' H' F2 A' R (e.trans s)
    | bk => exact fun σ' H' F2 A' R s => h σ' H' F2 A' R (e.trans s)
    | ct => exact fun σ' H' F2 A' R s => h σ' H' F2 A' R (e.trans s)
    | rt r => exact fun v σ' H' F2 A' R s q => h v σ' H' F2 A' R (e.trans s) q
  | ex c f x δ => exact fun cls dd σ' H' F2 A' R s q => h cls dd σ' H' F2 A' R (e.trans s) q
/-- an expression's answer, then a statement's -/
theorem RunS.bind {α β : Type} {A : Nat → Addr} {σ : L2.St} {ρ : Hp → Hp → SS → α → β → Prop} {E : Ends} {r : R α} {k : α → SS → R Fl} {Q1 : β → Hp → Prop} (h : RunS K mg S Y W F E (r.bind k))
    (hk : ∀ a δ1 b H1 F1, r = .ok a δ1 → Rel K S Y F1 A H1 σ δ1 → Same F F1 → ρ F1 H1 δ1 a b → RunS K mg S Y W F1 E (k a δ1) → Q1 b H1) : Run K mg S Y A σ W ρ F r Q1 := by
  cases r with
  | bad => exact h
  | ok a δ => exact fun b H' F2 R s q => hk a δ b H' F2 rfl R s q (RunS.weak h s)
  | ex c f x δ => exact fun cls dd H' F2 R s q => h cls dd σ H' F2 A R s q
end
def ST (X : Cx) (S : Sx) (W : WX) (st : Stmt) (g : SS → R Fl) : Prop :=
  ∃ t, PS X st t ∧ ∀ Y A σ H δ F E, σ.length = X.N.length → Rel X.K S Y F A H σ δ → RunS X.K X.mg S Y W F E (g δ) → t E σ H
def STs (X : Cx) (S : Sx) (W : WX) (st : List Stmt) (g : SS → R Fl) : Prop :=
  ∃ t, PSs X st t ∧ ∀ Y A σ H δ F E, σ.length = X.N.length → Rel X.K S Y F A H σ δ → RunS X.K X.mg S Y W F E (g δ) → t E σ H
theorem ps_len {X : Cx} {st : Stmt} {t t' : TS} (h : PS X st t) (k : ∀ E σ H, σ.length = X.N.length → t' E σ H → t E σ H) : PS X st t' := ⟨fun pins s σ H E I hw => h.run pins s σ H E I (k E σ H I.len hw)⟩
theorem pss_len {X : Cx} {st : List Stmt} {t t' : TS} (h : PSs X st t) (k : ∀ E σ H, σ.length = X.N.length → t' E σ H → t E σ H) : PSs X st t' := ⟨fun pins s σ H E I hw => h.run pins s σ H E I (k E σ H I.len hw)⟩
def tST (K : Frg) (mg : Str → Option Value) (S : Sx) (W : WX) (g : SS → R Fl) : TS := fun E σ H => ∃ Y A δ F, Rel K S Y F A H σ δ ∧ RunS K mg S Y W F E (g δ)
section
variable {X : Cx} {S : Sx} {W : WX} {a b e tg : Expr} {st : Stmt} {sts sts2 : List Stmt} {pos pos2 p : Pos} {ga gb : SS → R D} {g g1 g2 : SS → R Fl}
theorem sts_ps (h : STs X S W sts g) : PSs X sts (tST X.K X.mg S W g) := by
  obtain ⟨t, p, q⟩ := h
  refine pss_len p fun E σ H hl hw => ?_
  obtain ⟨Y, A, δ, F, Rl, hr⟩ := hw
  exact q _ _ _ _ _ _ _ hl Rl hr
theorem st_ps (h : ST X S W st g) : PS X st (tST X.K X.mg S W g) := by
  obtain ⟨t, p, q⟩ := h
  refine ps_len p fun E σ H hl hw => ?_
  obtain ⟨Y, A, δ, F, Rl, hr⟩ := hw
  exact q _ _ _ _ _ _ _ hl Rl hr
def gSkip : SS → R Fl := fun δ => .ok .nx δ
def gSeq (g1 g2 : SS → R Fl) : SS → R Fl := fun δ => match g1 δ with
  | .ok .nx δ1 => g2 δ1
  | r => r
theorem sts_nil : STs X S W [] gSkip := ⟨_, pss_nil, fun Y A σ H δ F E hl Rl h => h σ H F A Rl (Same.refl F)⟩
theorem sts_cons (h1 : ST X S W st g1) (h2 : STs X S W sts g2) : STs X S W (st :: sts) (gSeq g1 g2) := by
  have p2 := sts_ps h2
  obtain ⟨t, p1, q1⟩ := h1
  refine ⟨_, pss_cons p1 p2, fun Y A σ H δ F E hl Rl h => q1 _ _ _ _ _ _ _ hl Rl ?_⟩
  unfold gSeq at h
  cases hg : g1 δ with
  | bad =>
    rw [hg] at h
    exact h
  | ex c f x δ1 =>
    rw [hg] at h
    exact h
  | ok fl δ1 =>
    rw [hg] at h
    cases fl with
    | nx => exact fun σ' H' F' A' R' s => ⟨Y, A', δ1, F', R', RunS.weak h s⟩
    | bk => exact h
    | ct => exact h
    | rt r => exact h
theorem sts_one (h1 : ST X S W st g1) : STs X S W [st] g1 := by
  obtain ⟨t, p1, q1⟩ := h1
  exact ⟨_, pss_one p1, q1⟩
theorem st_pass : ST X S W (.Pass pos) gSkip := ⟨_, ps_pass, fun Y A σ H δ F E hl Rl h => h σ H F A Rl (Same.refl F)⟩
def gBrk : SS → R Fl := fun δ => .ok .bk δ
def gCnt : SS → R Fl := fun δ => .ok .ct δ
theorem st_break : ST X S W (.Break pos) gBrk := ⟨_, ps_break, fun Y A σ H δ F E hl Rl h => h σ H F A Rl (Same.refl F)⟩
theorem st_continue : ST X S W (.Continue pos) gCnt := ⟨_, ps_continue, fun Y A σ H δ F E hl Rl h => h σ H F A Rl (Same.refl F)⟩
theorem st_doc {x : Str} {j : Nat} : ST X S W (.Expr (.Constant (.str x) j pos) pos2) gSkip := ⟨_, ps_doc, fun Y A σ H δ F E hl Rl h => h σ H F A Rl (Same.refl F)⟩
def gDrop (g : SS → R D) : SS → R Fl := fun δ => (g δ).bind fun _ δ1 => .ok .nx δ1
theorem st_expr (h : EV X S W e ga) (hs : swapsWith e none pos.line X.env = pure false := by rfl) : ST X S W (.Expr e pos) (gDrop ga) := by
  obtain ⟨t, p, q⟩ := h
  exact ⟨_, ps_expr p hs, fun Y A σ H δ F E hl Rl h => q _ _ _ _ _ _ _ Rl (RunS.bind h fun x δ1 v H1 F1 _ R1 s1 rx h1 => h1 _ _ _ _ R1 (Same.refl _))⟩
def gRet (g : SS → R D) : SS → R Fl := fun δ => (g δ).bind fun x δ1 => .ok (.rt (.d x)) δ1
def gRetO (g : SS → R OC) : SS → R Fl := fun δ => (g δ).bind fun x δ1 => .ok (.rt (.o x)) δ1
theorem st_ret (h : EV X S W e ga) : ST X S W (.Return (some e) pos) (gRet ga) := by
  obtain ⟨t, p, q⟩ := h
  exact ⟨_, ps_ret p, fun Y A σ H δ F E hl Rl h => q _ _ _ _ _ _ _ Rl (RunS.bind h fun x δ1 v H1 F1 _ R1 s1 rx h1 => h1 _ _ _ _ _ R1 (Same.refl _) rx)⟩
theorem st_retO {go : SS → R OC} (h : EO X S W e go) : ST X S W (.Return (some e) pos) (gRetO go) := by
  obtain ⟨t, p, q⟩ := h
  exact ⟨_, ps_ret p, fun Y A σ H δ F E hl Rl h => q _ _ _ _ _ _ _ Rl (RunS.bind h fun x δ1 v H1 F1 _ R1 s1 rx h1 => h1 _ _ _ _ _ R1 (Same.refl _) rx)⟩
theorem st_retN : ST X S W (.Return none pos) (gRet (gC .none)) := ⟨_, ps_retN, fun Y A σ H δ F E hl Rl h => h _ _ _ _ _ Rl (Same.refl _) .non⟩
/-- return found, an own object of the def's -/
def gRetOwn (i : Nat) : SS → R Fl := fun δ => match δ[i]? with
  | some (some (.o c)) => .ok (.rt (.o c)) (δ.set i none)
  | _ => .bad
theorem st_retOwn (i : Nat) {x : Str} (hi : S.np ≤ i) (hN : X.N[i]? = some x := by rfl) (hv : Vis X.env.scope x := by first | exact Or.inl rfl | exact Or.inr (Or.inl rfl) | exact Or.inr (Or.inr rfl)) (hd : (x == ("__debug__" : Str)) = false := by decide)
    (hcd : (x == ("__classdict__" : Str)) = false := by decide) : ST X S W (.Return (some (.Name x p)) pos) (gRetOwn i) := by
  refine ⟨_, ps_ret (pe_var hN hv hd hcd), fun Y A σ H δ F E hl Rl h => ?_⟩
  unfold gRetOwn at h
  split at h
  · rename_i c e
    obtain ⟨o, h1, h2, h3⟩ := Rl.own_at e
    obtain ⟨h4, h5⟩ := Rl.own i c e
    have h0 : NT Y.H0 (A i) := h5.elim (fun z => absurd z (by omega)) fun z => z
    exact ⟨_, h1, h _ _ _ _ _ (Rl.drop i) (Same.refl _) ⟨A i, o, rfl, h2, h3, ⟨h4, h0, fun j c' hj e' => (set_none hj).1 (Rl.inj j i _ _ (set_none hj).2 e e')⟩⟩⟩
  · exact h.elim
def gIf (gt : SS → R Bool) (g1 g2 : SS → R Fl) : SS → R Fl := fun δ => (gt δ).bind fun k δ1 => if k = true then g1 δ1 else g2 δ1
theorem st_if {gt : SS → R Bool} (h : TV X S W e gt) (h1 : STs X S W sts g1) (h2 : STs X S W sts2 g2) : ST X S W (.If e sts sts2 pos) (gIf gt g1 g2) := by
  obtain ⟨t, p, q⟩ := h
  obtain ⟨t1, p1, q1⟩ := h1
  obtain ⟨t2, p2, q2⟩ := h2
  refine ⟨_, ps_if p p1 p2, fun Y A σ H δ F E hl Rl h => q _ _ _ _ _ _ _ Rl (RunS.bind h fun x δ1 v H1 F1 _ R1 s1 e1 h1 => ?_)⟩
  have e1' : x = v := e1
  subst e1'
  cases x with
  | true => exact iteT (q1 _ _ _ _ _ _ _ hl R1 h1)
  | false => exact iteF (q2 _ _ _ _ _ _ _ hl R1 h1)
def gAsg (i : Nat) (g : SS → R D) : SS → R Fl := fun δ => (g δ).bind fun x δ1 => .ok .nx (δ1.set i (some (.d x)))
def gAsgO (i : Nat) (g : SS → R OC) : SS → R Fl := fun δ => (g δ).bind fun x δ1 => .ok .nx (δ1.set i (some (.o x)))
theorem st_set (i : Nat) {x : Str} (hN : X.N.Nodup) (h : EV X S W e ga) (hi : X.N[i]? = some x := by rfl) (hx : Loc X.env.scope x := by first | exact .inl rfl | exact .inr rfl) (hs : swapsWith e (some (.Name x pos2)) pos.line X.env = pure false := by rfl) (hf : X.fn x = true ∨ X.env.scope.names.lookup x = some .local := by first | exact .inl rfl | exact .inr rfl | assumption) : ST X S W (.Assign [.Name x pos2] e pos) (gAsg i ga) := by
  obtain ⟨t, p, q⟩ := h
  exact ⟨_, ps_set hN hi hx p hs hf, fun Y A σ H δ F E hl Rl h => q _ _ _ _ _ _ _ Rl (RunS.bind h fun x δ1 v H1 F1 _ R1 s1 rx h1 => h1 _ _ _ _ (R1.setD rx) (Same.refl _))⟩
theorem st_setO (i : Nat) {x : Str} {go : SS → R OC} (hN : X.N.Nodup) (h : EO X S W e go) (hp : S.np ≤ i) (hi : X.N[i]? = some x := by rfl) (hx : Loc X.env.scope x := by first | exact .inl rfl | exact .inr rfl) (hs : swapsWith e (some (.Name x pos2)) pos.line X.env = pure false := by rfl) (hf : X.fn x = true ∨ X.env.scope.names.lookup x = some .local := by first | exact .inl rfl | exact .inr rfl | assumption) : ST X S W (.Assign [.Name x pos2] e pos) (gAsgO i go) := by
  obtain ⟨t, p, q⟩ := h
  refine ⟨_, ps_set hN hi hx p hs hf, fun Y A σ H δ F E hl Rl h => q _ _ _ _ _ _ _ Rl (RunS.bind h fun x δ1 v H1 F1 _ R1 s1 rx h1 => ?_)⟩
  obtain ⟨p, o, rfl, e2, r, fr⟩ := rx
  exact h1 _ _ _ _ (R1.setO hp e2 r fr) (Same.refl _)
/-! y = [..] on one line -/
variable {n : Nat} {vs : List Nat} {src : SS → R (List D)} {ftg : D → SS → Option SS} {gt : SS → R Bool} {ge : SS → R D} {elt iter : Expr} {scope : Scope} {own : List (Str × Nat)} {ifs : List Expr}
theorem lc_ps {y : Str} {py spos : Pos} (i : Nat) (hc : X.calm = true) (hN : X.N.Nodup) (hn : X.N.length = n) (hy : X.N[i]? = some y) (hyl : X.env.scope.names.lookup y = some .local)
    (hsw : swapsWith (.ListComp elt [⟨tg, iter, ifs, 0⟩] scope pos) (some (.Name y py)) spos.line X.env = pure true) {wi : TI} (hi : PI X tg iter wi)
    (qi : ∀ Y A σ H δ F Q, Rel X.K S Y F A H σ δ → Run X.K X.mg S Y A σ W (fun F' _ _ items J => ItOk X.K J items F') F (src δ) Q → wi σ H Q) (ok : BlkOk X.N X.env.scope scope own)
    (hg : ∀ (s : Shared) (H : Hp) (C : Addr) (cl : List (Str × Addr)) (fp : List Addr), GV (X.blk s H scope (compEnvC scope cl C X.env) fp) ⟨S.T, n⟩ (own.map (·.2)) tg ftg)
    (ht : ∀ (s : Shared) (H : Hp) (C : Addr) (cl : List (Str × Addr)) (fp : List Addr), PTV (X.blk s H scope (compEnvC scope cl C X.env) fp) ⟨S.T, n⟩ W0 ifs gt)
    (he : ∀ (s : Shared) (H : Hp) (C : Addr) (cl : List (Str × Addr)) (fp : List Addr), EV (X.blk s H scope (compEnvC scope cl C X.env) fp) ⟨S.T, n⟩ W0 elt ge) (hs : ∀ x, foldedSetIterable iter X.env x = pure x := by intro _; rfl) :
    PS X (.Assign [.Name y py] (.ListComp elt [⟨tg, iter, ifs, 0⟩] scope pos) spos) (fun E σ H => ∃ Y A δ F, Rel X.K S Y F A H σ δ ∧ Run X.K X.mg S Y A σ W (ρO X.K S Y A) F (gLc (own.map (·.2)) src ftg gt ge δ) fun x H1 => E.nx (σ.set i (some x)) H1) := by
  have P := ps_setLc (i := i) (y := y) (py := py) (pos := pos) (spos := spos) (g := tEG X.K ⟨S.T, n⟩ (own.map (·.2)) ftg) (tt := tTV X.K X.mg ⟨S.T, n⟩ W0 gt) (te := tEV X.K X.mg ⟨S.T, n⟩ W0 ge) hc hN hy hyl hsw hi ok (fun s H C cl fp => gv_pg (hg s H C cl fp)) (fun s H C cl fp => ht s H C cl fp) (fun s H C cl fp => ev_pe (he s H C cl fp)) hs
  refine ps_len P fun E σ H hl hw => ?_
  obtain ⟨Y, A, δ, F, Rl, hr⟩ := hw
  exact lc_run hn.symm (fun Y A σ H δ F Q Rl hr => qi _ _ _ _ _ _ _ Rl (Run.imp (fun _ _ _ _ _ q => ItOk.toP q) hr)) Y A σ H δ F _ (hl.trans hn) Rl hr
theorem st_setLc {y : Str} {py spos : Pos} (i : Nat) (hc : X.calm = true) (hN : X.N.Nodup) (hn : X.N.length = n) (hi : IV X S W tg iter src) (ok : BlkOk X.N X.env.scope scope own)
    (hsw : swapsWith (.ListComp elt [⟨tg, iter, ifs, 0⟩] scope pos) (some (.Name y py)) spos.line X.env = pure true)
    (hg : ∀ (s : Shared) (H : Hp) (C : Addr) (cl : List (Str × Addr)) (fp : List Addr), GV (X.blk s H scope (compEnvC scope cl C X.env) fp) ⟨S.T, n⟩ (own.map (·.2)) tg ftg)
    (ht : ∀ (s : Shared) (H : Hp) (C : Addr) (cl : List (Str × Addr)) (fp : List Addr), PTV (X.blk s H scope (compEnvC scope cl C X.env) fp) ⟨S.T, n⟩ W0 ifs gt)
    (he : ∀ (s : Shared) (H : Hp) (C : Addr) (cl : List (Str × Addr)) (fp : List Addr), EV (X.blk s H scope (compEnvC scope cl C X.env) fp) ⟨S.T, n⟩ W0 elt ge) (hy : X.N[i]? = some y := by rfl) (hyl : X.env.scope.names.lookup y = some .local := by rfl) (hs : ∀ x, foldedSetIterable iter X.env x = pure x := by intro _; rfl) :
    ST X S W (.Assign [.Name y py] (.ListComp elt [⟨tg, iter, ifs, 0⟩] scope pos) spos) (gAsg i (gD (gLc (own.map (·.2)) src ftg gt ge))) := by
  obtain ⟨wi, pi, qi⟩ := hi
  refine ⟨_, lc_ps i hc hN hn hy hyl hsw pi qi ok hg ht he hs, fun Y A σ H δ F E hl Rl h => ⟨Y, A, δ, F, Rl, ?_⟩⟩
  unfold gAsg gD at h
  have h' : RunS X.K X.mg S Y W F E ((gLc (own.map (·.2)) src ftg gt ge δ).bind fun c δ1 => .ok .nx (δ1.set i (some (.d c.toD)))) := by
    cases hg : gLc (own.map (·.2)) src ftg gt ge δ <;> (rw [hg] at h; exact h)
  refine RunS.bind h' fun x δ1 v H1 F1 _ R1 s1 rx h1 => ?_
  obtain ⟨p, o, rfl, e2, r, fr⟩ := rx
  exact h1 _ _ _ _ ((R1.freeze e2 fr r.ntb).setD ((r.mono (same_upd fr.f)).rp upd_same)) (same_upd fr.f)
theorem st_setLcO {y : Str} {py spos : Pos} (i : Nat) (hc : X.calm = true) (hN : X.N.Nodup) (hn : X.N.length = n) (hi : IV X S W tg iter src) (ok : BlkOk X.N X.env.scope scope own)
    (hsw : swapsWith (.ListComp elt [⟨tg, iter, ifs, 0⟩] scope pos) (some (.Name y py)) spos.line X.env = pure true)
    (hg : ∀ (s : Shared) (H : Hp) (C : Addr) (cl : List (Str × Addr)) (fp : List Addr), GV (X.blk s H scope (compEnvC scope cl C X.env) fp) ⟨S.T, n⟩ (own.map (·.2)) tg ftg)
    (ht : ∀ (s : Shared) (H : Hp) (C : Addr) (cl : List (Str × Addr)) (fp : List Addr), PTV (X.blk s H scope (compEnvC scope cl C X.env) fp) ⟨S.T, n⟩ W0 ifs gt)
    (he : ∀ (s : Shared) (H : Hp) (C : Addr) (cl : List (Str × Addr)) (fp : List Addr), EV (X.blk s H scope (compEnvC scope cl C X.env) fp) ⟨S.T, n⟩ W0 elt ge) (hp : S.np ≤ i) (hy : X.N[i]? = some y := by rfl) (hyl : X.env.scope.names.lookup y = some .local := by rfl) (hs : ∀ x, foldedSetIterable iter X.env x = pure x := by intro _; rfl) :
    ST X S W (.Assign [.Name y py] (.ListComp elt [⟨tg, iter, ifs, 0⟩] scope pos) spos) (gAsgO i (gLc (own.map (·.2)) src ftg gt ge)) := by
  obtain ⟨wi, pi, qi⟩ := hi
  refine ⟨_, lc_ps i hc hN hn hy hyl hsw pi qi ok hg ht he hs, fun Y A σ H δ F E hl Rl h => ⟨Y, A, δ, F, Rl, RunS.bind h fun x δ1 v H1 F1 _ R1 s1 rx h1 => ?_⟩⟩
  obtain ⟨p, o, rfl, e2, r, fr⟩ := rx
  exact h1 _ _ _ _ (R1.setO hp e2 r fr) (Same.refl _)
/-! (a, b, ..) = e -/
def gAsgT (f : D → SS → Option SS) (g : SS → R D) : SS → R Fl := fun δ => (g δ).bind fun x δ1 => match f x δ1 with
  | some δ2 => .ok .nx δ2
  | none => .bad
theorem st_asg {vs : List Nat} {f : D → SS → Option SS} (h : EV X S W e ga) (hg : GV X S vs tg f) (hs : swapsWithSole [tg] e pos.line X.env = pure false := by rfl) (hw : swappedStores [tg] e X.env = pure none := by rfl)
    (h1 : (assignEach [tg] X.env).map (·.2) = [assign tg X.env] := by rfl) : ST X S W (.Assign [tg] e pos) (gAsgT f ga) := by
  obtain ⟨t, p, q⟩ := h
  obtain ⟨t2, p2, q2⟩ := hg
  refine ⟨_, ps_asg p p2 hs hw h1, fun Y A σ H δ F E hl Rl h => q _ _ _ _ _ _ _ Rl (RunS.bind h fun x δ1 v H1 F1 _ R1 s1 rx h1 => ?_)⟩
  cases ef : f x δ1 with
  | none =>
    rw [ef] at h1
    exact h1.elim
  | some δ2 =>
    rw [ef] at h1
    exact q2 _ _ _ _ _ _ _ _ _ _ R1 rx ef fun σ' R2 _ _ => h1 _ _ _ _ R2 (Same.refl _)
/-! a, b = x, y with plain local names -/
def gPar (i j : Nat) (ga gb : SS → R D) : SS → R Fl := fun δ => (ga δ).bind fun x δ1 => (gb δ1).bind fun y δ2 => .ok .nx ((δ2.set i (some (.d x))).set j (some (.d y)))
def gParO (i j : Nat) (ga : SS → R D) (gb : SS → R OC) : SS → R Fl := fun δ => (ga δ).bind fun x δ1 => (gb δ1).bind fun y δ2 => .ok .nx ((δ2.set i (some (.d x))).set j (some (.o y)))
variable {x y z : Str} {px py pz pt : Pos} {kt k2 : Nat} {pt2 : Pos}
theorem st_par (i j : Nat) (hc : X.calm = true) (hN : X.N.Nodup) (ha : EV X S W a ga) (hb : EV X S W b gb) (hij : i ≠ j := by decide) (hi : X.N[i]? = some x := by rfl) (hj : X.N[j]? = some y := by rfl)
    (hx : X.env.scope.names.lookup x = some .local := by rfl) (hy : X.env.scope.names.lookup y = some .local := by rfl)
    (hw : swappedStores [.Tuple [.Name x px, .Name y py] kt pt] (.Tuple [a, b] k2 pt2) X.env = pure (some [x, y]) := by rfl)
    (hs : swapsWithSole [.Tuple [.Name x px, .Name y py] kt pt] (.Tuple [a, b] k2 pt2) pos.line X.env = pure false := by rfl) (hsa : starEach [a, b] X.env = (false, eval a X.env) :: starEach [b] X.env := by rfl) (hsb : starEach [b] X.env = (false, eval b X.env) :: starEach [] X.env := by rfl) :
    ST X S W (.Assign [.Tuple [.Name x px, .Name y py] kt pt] (.Tuple [a, b] k2 pt2) pos) (gPar i j ga gb) := by
  obtain ⟨t, p, q⟩ := ha
  obtain ⟨t2, p2, q2⟩ := hb
  refine ⟨_, ps_par hc hN hi hj hij hx hy (pa_cons p (pa_cons p2 pa_nil hsb) hsa) hw hs, fun Y A σ H δ F E hl Rl h => q _ _ _ _ _ _ _ Rl (RunS.bind h fun x δ1 v H1 F1 _ R1 s1 rx h1 => ?_)⟩
  refine q2 _ _ _ _ _ _ _ R1 (RunS.bind h1 fun y δ2 u H2 F2 _ R2 s2 ry h2 => ?_)
  exact ⟨v, u, rfl, h2 _ _ _ _ ((R2.setD (rx.mono s2)).setD ry) (Same.refl _)⟩
theorem st_parO (i j : Nat) {gb : SS → R OC} (hc : X.calm = true) (hN : X.N.Nodup) (ha : EV X S W a ga) (hb : EO X S W b gb) (hp : S.np ≤ j) (hij : i ≠ j := by decide) (hi : X.N[i]? = some x := by rfl) (hj : X.N[j]? = some y := by rfl)
    (hx : X.env.scope.names.lookup x = some .local := by rfl) (hy : X.env.scope.names.lookup y = some .local := by rfl)
    (hw : swappedStores [.Tuple [.Name x px, .Name y py] kt pt] (.Tuple [a, b] k2 pt2) X.env = pure (some [x, y]) := by rfl)
    (hs : swapsWithSole [.Tuple [.Name x px, .Name y py] kt pt] (.Tuple [a, b] k2 pt2) pos.line X.env = pure false := by rfl) (hsa : starEach [a, b] X.env = (false, eval a X.env) :: starEach [b] X.env := by rfl) (hsb : starEach [b] X.env = (false, eval b X.env) :: starEach [] X.env := by rfl) :
    ST X S W (.Assign [.Tuple [.Name x px, .Name y py] kt pt] (.Tuple [a, b] k2 pt2) pos) (gParO i j ga gb) := by
  obtain ⟨t, p, q⟩ := ha
  obtain ⟨t2, p2, q2⟩ := hb
  refine ⟨_, ps_par hc hN hi hj hij hx hy (pa_cons p (pa_cons p2 pa_nil hsb) hsa) hw hs, fun Y A σ H δ F E hl Rl h => q _ _ _ _ _ _ _ Rl (RunS.bind h fun x δ1 v H1 F1 _ R1 s1 rx h1 => ?_)⟩
  refine q2 _ _ _ _ _ _ _ R1 (RunS.bind h1 fun y δ2 u H2 F2 _ R2 s2 ry h2 => ?_)
  obtain ⟨p, o, rfl, e2, r, fr⟩ := ry
  exact ⟨v, .ref p, rfl, h2 _ _ _ _ ((R2.setD (rx.mono s2)).setO hp e2 r ⟨fr.f, fr.h0, fun k c hk => by
    rcases set_some hk with ⟨_, z, _⟩ | ⟨_, hk⟩
    · cases z
    · exact fr.ne k c hk⟩) (Same.refl _)⟩
/-- found, last = [], e: the list is made first -/
def gParF (i j : Nat) (go : SS → R OC) (gb : SS → R D) : SS → R Fl := fun δ => (go δ).bind fun x δ1 => match gb δ1 with
  | .ok y δ2 => .ok .nx (((mergeD δ1 δ2).set j (some (.d y))).set i (some (.o x)))
  | _ => .bad
theorem protect {Y : Dy} {A : Nat → Addr} {σ : L2.St} {H1 F1 : Hp} {δ1 : SS} {t2 : TE} {Q : V → Hp → Prop} (hl : σ.length = n) (R1 : Rel X.K S Y F1 A H1 σ δ1) {y : D} {δ2 : SS} (eg : gb δ1 = .ok y δ2)
    (q2 : ∀ Y A σ H δ F Q, Rel X.K ⟨S.T, n⟩ Y F A H σ δ → Run X.K X.mg ⟨S.T, n⟩ Y A σ W (ρD X.K) F (gb δ) Q → t2 σ H Q)
    (hq : ∀ u H2 F2, Rel X.K S Y F2 A H2 σ (mergeD δ1 δ2) → Same F1 F2 → Rp X.K F2 y u → (∀ p xs, Fresh S Y F1 A H1 δ1 p → H1 p = some xs → (∀ ps, xs ≠ .tbl ps) → H2 p = some xs ∧ Fresh S Y F2 A H2 (mergeD δ1 δ2) p) → Q u H2) : t2 σ H1 Q := by
  have hd : δ1.length = n := by rw [← R1.len]; exact hl
  have Ri := R1.enter (n := n) (by rw [hd]; exact Nat.le_refl n)
  refine q2 _ _ _ _ _ _ _ Ri ?_
  rw [eg]
  intro u H2 F2 R2 s2 ru
  have RL := R1.leave (vs := []) (by rw [hd]; exact Nat.le_refl n) R2
  refine hq u H2 F2 RL s2 ru fun p xs fr hp nt => ?_
  have hk : H2 p = some xs := R2.kp.keep p xs hp (fun ⟨j, c, g1, g2⟩ => fr.ne j c g1 g2) nt
  refine ⟨hk, ?_, fr.h0, fun j c hj => ?_⟩
  · cases hf : F2 p with
    | none => rfl
    | some o =>
      rcases R2.frs p (by rw [hf]; simp) with z | z
      · exact absurd fr.f z
      · obtain ⟨ps, y⟩ := (show NT H1 p from z) _ hp
        exact absurd y (nt ps)
  · obtain ⟨a, g1, g2⟩ := mergeD_some hj
    rcases g2 with ⟨c0, c', rfl, _, _⟩ | ⟨e, g3⟩
    · exact fr.ne j _ g1
    · exact absurd e.symm (g3 c)
theorem st_parF (i j : Nat) {go : SS → R OC} (hn : X.N.length = n) (hc : X.calm = true) (hN : X.N.Nodup) (ha : EO X S W a go) (hb : EV X ⟨S.T, n⟩ W b gb) (hp : S.np ≤ i) (hij : i ≠ j := by decide) (hi : X.N[i]? = some x := by rfl) (hj : X.N[j]? = some y := by rfl)
    (hx : X.env.scope.names.lookup x = some .local := by rfl) (hy : X.env.scope.names.lookup y = some .local := by rfl)
    (hw : swappedStores [.Tuple [.Name x px, .Name y py] kt pt] (.Tuple [a, b] k2 pt2) X.env = pure (some [x, y]) := by rfl)
    (hs : swapsWithSole [.Tuple [.Name x px, .Name y py] kt pt] (.Tuple [a, b] k2 pt2) pos.line X.env = pure false := by rfl) (hsa : starEach [a, b] X.env = (false, eval a X.env) :: starEach [b] X.env := by rfl) (hsb : starEach [b] X.env = (false, eval b X.env) :: starEach [] X.env := by rfl) :
    ST X S W (.Assign [.Tuple [.Name x px, .Name y py] kt pt] (.Tuple [a, b] k2 pt2) pos) (gParF i j go gb) := by
  obtain ⟨t, p, q⟩ := ha
  obtain ⟨t2, p2, q2⟩ := hb
  refine ⟨_, ps_par hc hN hi hj hij hx hy (pa_cons p (pa_cons p2 pa_nil hsb) hsa) hw hs, fun Y A σ H δ F E hl Rl h => q _ _ _ _ _ _ _ Rl (RunS.bind h fun x δ1 v H1 F1 _ R1 s1 rx h1 => ?_)⟩
  obtain ⟨p, o, rfl, e2, r, fr⟩ := rx
  cases eg : gb δ1 with
  | bad =>
    rw [eg] at h1
    exact h1.elim
  | ex c f x δ2 =>
    rw [eg] at h1
    exact h1.elim
  | ok y δ2 =>
    rw [eg] at h1
    refine protect (hl.trans hn) R1 eg q2 fun u H2 F2 R2 s2 ru hk => ?_
    obtain ⟨k1, k2⟩ := hk p o fr e2 r.ntb
    refine ⟨.ref p, u, rfl, ?_⟩
    have h3 := h1 _ _ _ _ ((R2.setD (i := j) ru).setO hp k1 (r.mono s2) ⟨k2.f, k2.h0, fun k c hk => by
      rcases set_some hk with ⟨_, z, _⟩ | ⟨_, hk⟩
      · cases z
      · exact k2.ne k c hk⟩) s2
    rw [List.set_comm _ _ (Ne.symm hij)] at h3
    exact h3
def gPar3 (i j l : Nat) (ga gb gc : SS → R D) : SS → R Fl := fun δ => (ga δ).bind fun x δ1 => (gb δ1).bind fun y δ2 => (gc δ2).bind fun z δ3 => .ok .nx (((δ3.set i (some (.d x))).set j (some (.d y))).set l (some (.d z)))
def gPar3O (i j l : Nat) (ga gb : SS → R D) (gc : SS → R OC) : SS → R Fl := fun δ => (ga δ).bind fun x δ1 => (gb δ1).bind fun y δ2 => (gc δ2).bind fun z δ3 => .ok .nx (((δ3.set i (some (.d x))).set j (some (.d y))).set l (some (.o z)))
theorem st_par3 (i j l : Nat) {c : Expr} {gc : SS → R D} (hc : X.calm = true) (hN : X.N.Nodup) (ha : EV X S W a ga) (hb : EV X S W b gb) (hcc : EV X S W c gc) (hij : i ≠ j := by decide) (hil : i ≠ l := by decide) (hjl : j ≠ l := by decide) (hi : X.N[i]? = some x := by rfl) (hj : X.N[j]? = some y := by rfl) (hl : X.N[l]? = some z := by rfl)
    (hx : X.env.scope.names.lookup x = some .local := by rfl) (hy : X.env.scope.names.lookup y = some .local := by rfl) (hz : X.env.scope.names.lookup z = some .local := by rfl)
    (hw : swappedStores [.Tuple [.Name x px, .Name y py, .Name z pz] kt pt] (.Tuple [a, b, c] k2 pt2) X.env = pure (some [x, y, z]) := by rfl)
    (hs : swapsWithSole [.Tuple [.Name x px, .Name y py, .Name z pz] kt pt] (.Tuple [a, b, c] k2 pt2) pos.line X.env = pure false := by rfl) (hsa : starEach [a, b, c] X.env = (false, eval a X.env) :: starEach [b, c] X.env := by rfl) (hsb : starEach [b, c] X.env = (false, eval b X.env) :: starEach [c] X.env := by rfl) (hsc : starEach [c] X.env = (false, eval c X.env) :: starEach [] X.env := by rfl) :
    ST X S W (.Assign [.Tuple [.Name x px, .Name y py, .Name z pz] kt pt] (.Tuple [a, b, c] k2 pt2) pos) (gPar3 i j l ga gb gc) := by
  obtain ⟨t, p, q⟩ := ha
  obtain ⟨t2, p2, q2⟩ := hb
  obtain ⟨t3, p3, q3⟩ := hcc
  refine ⟨_, ps_par3 hc hN hi hj hl hij hil hjl hx hy hz (pa_cons p (pa_cons p2 (pa_cons p3 pa_nil hsc) hsb) hsa) hw hs, fun Y A σ H δ F E hl Rl h => q _ _ _ _ _ _ _ Rl (RunS.bind h fun x δ1 v H1 F1 _ R1 s1 rx h1 => ?_)⟩
  refine q2 _ _ _ _ _ _ _ R1 (RunS.bind h1 fun y δ2 u H2 F2 _ R2 s2 ry h2 => ?_)
  refine q3 _ _ _ _ _ _ _ R2 (RunS.bind h2 fun z δ3 w H3 F3 _ R3 s3 rz h3 => ?_)
  exact ⟨v, u, w, rfl, h3 _ _ _ _ (((R3.setD ((rx.mono s2).mono s3)).setD (ry.mono s3)).setD rz) (Same.refl _)⟩
theorem st_par3O (i j l : Nat) {c : Expr} {gc : SS → R OC} (hc : X.calm = true) (hN : X.N.Nodup) (ha : EV X S W a ga) (hb : EV X S W b gb) (hcc : EO X S W c gc) (hp : S.np ≤ l) (hij : i ≠ j := by decide) (hil : i ≠ l := by decide) (hjl : j ≠ l := by decide) (hi : X.N[i]? = some x := by rfl) (hj : X.N[j]? = some y := by rfl) (hl : X.N[l]? = some z := by rfl)
    (hx : X.env.scope.names.lookup x = some .local := by rfl) (hy : X.env.scope.names.lookup y = some .local := by rfl) (hz : X.env.scope.names.lookup z = some .local := by rfl)
    (hw : swappedStores [.Tuple [.Name x px, .Name y py, .Name z pz] kt pt] (.Tuple [a, b, c] k2 pt2) X.env = pure (some [x, y, z]) := by rfl)
    (hs : swapsWithSole [.Tuple [.Name x px, .Name y py, .Name z pz] kt pt] (.Tuple [a, b, c] k2 pt2) pos.line X.env = pure false := by rfl) (hsa : starEach [a, b, c] X.env = (false, eval a X.env) :: starEach [b, c] X.env := by rfl) (hsb : starEach [b, c] X.env = (false, eval b X.env) :: starEach [c] X.env := by rfl) (hsc : starEach [c] X.env = (false, eval c X.env) :: starEach [] X.env := by rfl) :
    ST X S W (.Assign [.Tuple [.Name x px, .Name y py, .Name z pz] kt pt] (.Tuple [a, b, c] k2 pt2) pos) (gPar3O i j l ga gb gc) := by
  obtain ⟨t, p, q⟩ := ha
  obtain ⟨t2, p2, q2⟩ := hb
  obtain ⟨t3, p3, q3⟩ := hcc
  refine ⟨_, ps_par3 hc hN hi hj hl hij hil hjl hx hy hz (pa_cons p (pa_cons p2 (pa_cons p3 pa_nil hsc) hsb) hsa) hw hs, fun Y A σ H δ F E hl Rl h => q _ _ _ _ _ _ _ Rl (RunS.bind h fun x δ1 v H1 F1 _ R1 s1 rx h1 => ?_)⟩
  refine q2 _ _ _ _ _ _ _ R1 (RunS.bind h1 fun y δ2 u H2 F2 _ R2 s2 ry h2 => ?_)
  refine q3 _ _ _ _ _ _ _ R2 (RunS.bind h2 fun z δ3 w H3 F3 _ R3 s3 rz h3 => ?_)
  obtain ⟨p, o, rfl, e2, r, fr⟩ := rz
  exact ⟨v, u, .ref p, rfl, h3 _ _ _ _ (((R3.setD ((rx.mono s2).mono s3)).setD (ry.mono s3)).setO hp e2 r ⟨fr.f, fr.h0, fun k c hk => by
    rcases set_some hk with ⟨_, zz, _⟩ | ⟨_, hk⟩
    · cases zz
    · rcases set_some hk with ⟨_, zz, _⟩ | ⟨_, hk⟩
      · cases zz
      · exact fr.ne k c hk⟩) (Same.refl _)⟩
/-! ### own lists: append, o[i] = e, pop -/
def gApp (i : Nat) (g : SS → R D) : SS → R Fl := fun δ => (g δ).bind fun x δ1 => match δ1[i]? with
  | some (some (.o (.l xs))) => if xs.length < sizeLine then .ok .nx (δ1.set i (some (.o (.l (xs ++ [x]))))) else .bad
  | _ => .bad
def gApO (i : Nat) (g : SS → R D) : SS → R Fl := fun δ => match δ[i]? with
  | some (some (.o (.l _))) => gApp i g δ
  | _ => .bad
theorem tyV_own {Y : Dy} {A : Nat → Addr} {σ : L2.St} {H F : Hp} {δ : SS} {i : Nat} {xs : List D} (Rl : Rel X.K S Y F A H σ δ) (h : δ[i]? = some (some (.o (.l xs)))) : ∃ vs, σ[i]? = some (some (.ref (A i))) ∧ H (A i) = some (.lst vs) ∧ Rps X.K F xs vs ∧ tyV X.K "list" (.ref (A i)) H := by
  obtain ⟨o, h1, h2, h3⟩ := Rl.own_at h
  cases h3 with
  | l r => exact ⟨_, h1, h2, r, .inl ⟨rfl, _, .inl (.inl h2)⟩⟩
/-- xs.append(e), xs an own list -/
theorem st_app (i : Nat) {x : Str} {apos cpos : Pos} (h : EV X S W e ga) (hs : swapsWith (.Call (.Attribute (.Name x p) "append" apos) [e] [] cpos) none pos.line X.env = pure false := by rfl) (hN : X.N[i]? = some x := by rfl) (hv : Vis X.env.scope x := by first | exact Or.inl rfl | exact Or.inr (Or.inl rfl) | exact Or.inr (Or.inr rfl)) (hd : (x == ("__debug__" : Str)) = false := by decide)
    (hcd : (x == ("__classdict__" : Str)) = false := by decide) (hbase : attributeBase (.Name x p) "append" X.env (eval (.Name x p) X.env) = eval (.Name x p) X.env := by rfl)
    (hfew : ((backTo cpos (starEach [e] X.env)).all (fun x => !x.1) && (backToKw cpos (keywordEach [] X.env)).all (fun x => x.1.isSome)
      && decide ([e].length + ([] : List Keyword).length + (if ([] : List Keyword).isEmpty then 0 else 1) < 30)) = true := by rfl)
    (hline : (apos.endLine == cpos.line) = true := by rfl) (hse : starEach [e] X.env = (false, eval e X.env) :: starEach [] X.env := by rfl) :
    ST X S W (.Expr (.Call (.Attribute (.Name x p) "append" apos) [e] [] cpos) pos) (gApO i ga) := by
  obtain ⟨t, p, q⟩ := h
  refine ⟨_, ps_expr (pe_bm PySem.F.plainAttrs_list PySem.F.slot_list_append PySem.F.type_list_append mt_append (pe_var hN hv hd hcd) (pa_cons p pa_nil hse) hbase hfew hline hse rfl) hs, fun Y A σ H δ F E hl Rl h => ?_⟩
  unfold gApO at h
  split at h
  · rename_i xs e
    obtain ⟨vs, h1, h2, h3, h4⟩ := tyV_own Rl e
    refine ⟨_, h1, h4, ?_⟩
    refine q _ _ _ _ _ _ _ Rl (RunS.bind h fun x δ1 v H1 F1 _ R1 s1 rx g1 => ?_)
    split at g1
    · rename_i ys e1
      by_cases hz : ys.length < sizeLine
      · rw [if_pos hz] at g1
        obtain ⟨us, k1, k2, k3, k4⟩ := tyV_own R1 e1
        exact ⟨A i, us, v, rfl, rfl, k2, by rw [k3.length]; exact hz, g1 _ _ _ _ (R1.wr e1 (.l (k3.append (.cons rx .nil)))) (Same.refl _)⟩
      · rw [if_neg hz] at g1
        exact g1.elim
    · exact g1.elim
  · exact h.elim
def isO (i : Nat) (δ : SS) : Bool := match δ[i]? with
  | some (some (.o (.l _))) => true
  | _ => false
def gSetIx (i : Nat) (gv gi : SS → R D) : SS → R Fl := fun δ => (gv δ).bind fun v δ1 => if isO i δ1 = true then (gi δ1).bind fun k δ2 => match δ2[i]?, k with
    | some (some (.o (.l xs))), .int k => (match ixN xs.length k with
      | some j => .ok .nx (δ2.set i (some (.o (.l (xs.set j v)))))
      | none => .bad)
    | _, _ => .bad
  else .bad
/-- xs[k] = e, xs an own list -/
theorem st_setIx (i : Nat) {x : Str} {k : Expr} {gk : SS → R D} {pn : Pos} (h : EV X S W e ga) (hk : EV X S W k gk) (hN : X.N[i]? = some x := by rfl) (hv : Vis X.env.scope x := by first | exact Or.inl rfl | exact Or.inr (Or.inl rfl) | exact Or.inr (Or.inr rfl)) (hd : (x == ("__debug__" : Str)) = false := by decide)
    (hcd : (x == ("__classdict__" : Str)) = false := by decide) (hs : swapsWithSole [.Subscript (.Name x pn) k pos2] e pos.line X.env = pure false := by rfl) (hw : swappedStores [.Subscript (.Name x pn) k pos2] e X.env = pure none := by rfl)
    (h1 : (assignEach [.Subscript (.Name x pn) k pos2] X.env).map (·.2) = [assign (.Subscript (.Name x pn) k pos2) X.env] := by rfl)
    (ha : ∀ v, assign (.Subscript (.Name x pn) k pos2) X.env v = (do
      let ov ← holding [v] (eval (.Name x pn) X.env)
      let iv ← holding [v, ov] (eval k X.env)
      standAt pos2
      holding [v, ov, iv] (setItem ov iv v)
      release [v, ov, iv] []) := by intro _; rfl) : ST X S W (.Assign [.Subscript (.Name x pn) k pos2] e pos) (gSetIx i ga gk) := by
  obtain ⟨t, p, q⟩ := h
  obtain ⟨t2, p2, q2⟩ := hk
  refine ⟨_, ps_asg p (pg_sub (pe_var hN hv hd hcd) p2 set_list ha) hs hw h1, fun Y A σ H δ F E hl Rl h => q _ _ _ _ _ _ _ Rl (RunS.bind h fun x δ1 v H1 F1 _ R1 s1 rx g1 => ?_)⟩
  by_cases hi : isO i δ1 = true
  · rw [if_pos hi] at g1
    obtain ⟨ys, ey⟩ : ∃ ys, δ1[i]? = some (some (.o (.l ys))) := by
      unfold isO at hi
      split at hi
      · rename_i xs e
        exact ⟨xs, e⟩
      · cases hi
    obtain ⟨us, k1, k2, k3, k4⟩ := tyV_own R1 ey
    refine ⟨_, k1, q2 _ _ _ _ _ _ _ R1 (RunS.bind g1 fun y δ2 w H2 F2 _ R2 s2 ry g2 => ?_)⟩
    split at g2
    · rename_i xs k ez e2
      split at g2
      · rename_i j ej
        obtain ⟨us', m1, m2, m3, m4⟩ := tyV_own R2 ez
        cases ry
        have e3 : A i = A i := rfl
        refine ⟨A i, us', k, j, rfl, rfl, m2, by rw [m3.length]; exact ej, g2 _ _ _ _ (R2.wr ez (.l (Rps.set (rx.mono s2) j m3))) (Same.refl _)⟩
      · exact g2.elim
    · exact g2.elim
  · rw [if_neg hi] at g1
    exact g1.elim
/-! ### for, while -/
def forLoop (tg : D → SS → Option SS) (gb : SS → R Fl) : List D → SS → R Fl
  | [], δ => .ok .nx δ
  | d :: ds, δ => match tg d δ with
    | none => .bad
    | some δ1 => match gb δ1 with
      | .ok .nx δ2 => forLoop tg gb ds δ2
      | .ok .ct δ2 => forLoop tg gb ds δ2
      | .ok .bk δ2 => .ok .nx δ2
      | .ok (.rt r) δ2 => .ok (.rt r) δ2
      | .bad => .bad
      | .ex c f x δ2 => .ex c f x δ2
def gFor (src : SS → R (List D)) (tg : D → SS → Option SS) (gb : SS → R Fl) : SS → R Fl := fun δ => (src δ).bind fun items δ1 => forLoop tg gb items δ1
theorem st_for {vs : List Nat} {iter : Expr} {body : List Stmt} {src : SS → R (List D)} {ftg : D → SS → Option SS} {gb : SS → R Fl} (hp : PassesOwn (model X.prog X.w) X.A X.env X.xe) (hc : X.calm = true) (hi : IV X S W tg iter src) (hg : GV X S vs tg ftg) (hb : STs X S W body gb)
    (hs : ∀ x, foldedSetIterable iter X.env x = pure x := by intro _; rfl) : ST X S W (.For tg iter body [] pos) (gFor src ftg gb) := by
  obtain ⟨wi, pi, qi⟩ := hi
  refine ⟨_, ps_for hp hc pi (gv_pg hg) (sts_ps hb) hs, fun Y A σ H δ F E hl Rl h => qi _ _ _ _ _ _ _ Rl (RunS.bind h fun items δ1 J H1 F1 _ R1 s1 ok h1 => ?_)⟩
  refine ⟨fun i m σ H => i ≤ items.length ∧ m = items.length - i ∧ ∃ A δ F, Rel X.K S Y F A H σ δ ∧ Same F1 F ∧ RunS X.K X.mg S Y W F E (forLoop ftg gb (items.drop i) δ), ⟨_, Nat.zero_le _, rfl, A, δ1, F1, R1, Same.refl _, h1⟩, ?_⟩
  rintro i m σ2 H2 ⟨hi, rfl, A2, δ2, F2, R2, s2, h2⟩
  obtain ⟨k1, k2⟩ := ok S Y A2 σ2 δ2 H2 F2 i R2 s2
  by_cases hz : i < items.length
  · right
    rw [List.drop_eq_getElem_cons hz] at h2
    obtain ⟨g1, g2⟩ := k1 _ (List.getElem?_eq_getElem hz)
    refine ⟨g1, fun σ' H' => (i + 1 ≤ items.length) ∧ ∃ A δ F, Rel X.K S Y F A H' σ' δ ∧ Same F1 F ∧ RunS X.K X.mg S Y W F E (forLoop ftg gb (items.drop (i + 1)) δ), fun σ' H' ⟨l1, w⟩ => ⟨items.length - (i + 1), by omega, l1, rfl, w⟩, fun x H' hy => ?_⟩
    obtain ⟨F', R', s', rp⟩ := g2 x H' hy
    unfold forLoop at h2
    cases et : ftg items[i] δ2 with
    | none =>
      rw [et] at h2
      exact h2.elim
    | some δ3 =>
      rw [et] at h2
      refine ⟨Y, A2, δ2, F', _, δ3, R', rp, et, fun σ3 R3 hl3 _ => ⟨Y, A2, δ3, F', R3, ?_⟩⟩
      cases eb : gb δ3 with
      | bad =>
        simp only [eb] at h2
        exact h2.elim
      | ex c f y δ4 =>
        simp only [eb] at h2
        exact RunS.weak h2 s'
      | ok fl δ4 =>
        simp only [eb] at h2
        cases fl with
        | nx => exact fun σ4 H4 F4 A4 R4 s4 => ⟨hz, A4, δ4, F4, R4, (s2.trans s').trans s4, RunS.weak h2 (s'.trans s4)⟩
        | ct => exact fun σ4 H4 F4 A4 R4 s4 => ⟨hz, A4, δ4, F4, R4, (s2.trans s').trans s4, RunS.weak h2 (s'.trans s4)⟩
        | bk => exact fun σ4 H4 F4 A4 R4 s4 => h2 _ _ _ _ R4 (s'.trans s4)
        | rt r => exact fun v σ4 H4 F4 A4 R4 s4 q => h2 v _ _ _ _ R4 (s'.trans s4) q
  · left
    have e : i = items.length := by omega
    rw [List.drop_eq_nil_of_le (by omega)] at h2
    exact ⟨k2 (by omega), h2 _ _ _ _ R2 (Same.refl _)⟩
def whLoop (gt : SS → R Bool) (gb : SS → R Fl) : Nat → SS → R Fl
  | 0, _ => .bad
  | n + 1, δ => match gt δ with
    | .bad => .bad
    | .ex c f x δ1 => .ex c f x δ1
    | .ok false δ1 => .ok .nx δ1
    | .ok true δ1 => match gb δ1 with
      | .ok .nx δ2 => whLoop gt gb n δ2
      | .ok .ct δ2 => whLoop gt gb n δ2
      | .ok .bk δ2 => .ok .nx δ2
      | .ok (.rt r) δ2 => .ok (.rt r) δ2
      | .bad => .bad
      | .ex c f x δ2 => .ex c f x δ2
theorem whLoop_mono {gt : SS → R Bool} {gb : SS → R Fl} : ∀ {n : Nat} {δ : SS} {r : R Fl}, whLoop gt gb n δ = r → r ≠ .bad → ∀ {m : Nat}, n ≤ m → whLoop gt gb m δ = r
  | 0, δ, r, h, hb, m, _ => absurd h.symm hb
  | n + 1, δ, r, h, hb, 0, hm => by omega
  | n + 1, δ, r, h, hb, m + 1, hm => by
    unfold whLoop at h ⊢
    cases et : gt δ with
    | bad =>
      rw [et] at h
      exact absurd h.symm hb
    | ex c f x δ1 =>
      rw [et] at h
      exact h
    | ok k δ1 =>
      rw [et] at h
      cases k with
      | false => exact h
      | true =>
        cases eb : gb δ1 with
        | bad =>
          simp only [eb] at h
          exact absurd h.symm hb
        | ex c f x δ2 =>
          simp only [eb] at h ⊢
          exact h
        | ok fl δ2 =>
          simp only [eb] at h ⊢
          cases fl with
          | nx => exact whLoop_mono (n := n) h hb (by omega)
          | ct => exact whLoop_mono (n := n) h hb (by omega)
          | bk => exact h
          | rt r => exact h
open Classical in
noncomputable def gWhile (gt : SS → R Bool) (gb : SS → R Fl) : SS → R Fl := fun δ => if h : ∃ n, whLoop gt gb n δ ≠ .bad then whLoop gt gb h.choose δ else .bad
theorem gWhile_eq {gt : SS → R Bool} {gb : SS → R Fl} {n : Nat} {δ : SS} {r : R Fl} (h : whLoop gt gb n δ = r) (hb : r ≠ .bad) : gWhile gt gb δ = r := by
  have hx : ∃ n, whLoop gt gb n δ ≠ .bad := ⟨n, by rw [h]; exact hb⟩
  unfold gWhile
  rw [dif_pos hx]
  have h2 := hx.choose_spec
  have h3 := whLoop_mono (n := hx.choose) rfl h2 (Nat.le_max_left hx.choose n)
  have h4 := whLoop_mono h hb (Nat.le_max_right hx.choose n)
  rw [← h3, h4]
theorem gWhile_of {gt : SS → R Bool} {gb : SS → R Fl} {δ : SS} (hb : gWhile gt gb δ ≠ .bad) : ∃ n, whLoop gt gb n δ = gWhile gt gb δ := by
  unfold gWhile at hb ⊢
  split at hb
  · rename_i h
    exact ⟨h.choose, by rw [dif_pos h]⟩
  · exact absurd rfl hb
theorem st_while {c : Expr} {body : List Stmt} {gt : SS → R Bool} {gb : SS → R Fl} (hp : PassesOwn (model X.prog X.w) X.A X.env X.xe) (ht : TV X S W c gt) (hb : STs X S W body gb) : ST X S W (.While c body [] pos) (gWhile gt gb) := by
  obtain ⟨t, p, q⟩ := ht
  refine ⟨_, ps_while hp p (sts_ps hb), fun Y A σ H δ F E hl Rl h => ?_⟩
  have hnb : gWhile gt gb δ ≠ .bad := fun e => by
    rw [e] at h
    exact h
  obtain ⟨n, hn⟩ := gWhile_of hnb
  rw [← hn] at h
  refine ⟨fun m σ H => ∃ A δ F, Rel X.K S Y F A H σ δ ∧ RunS X.K X.mg S Y W F E (whLoop gt gb m δ), ⟨n, A, δ, F, Rl, h⟩, ?_⟩
  rintro m σ1 H1 ⟨A1, δ1, F1, R1, h1⟩
  cases m with
  | zero => exact h1.elim
  | succ m =>
    unfold whLoop at h1
    have h2 : RunS X.K X.mg S Y W F1 E ((gt δ1).bind fun k δ2 => if k = true then (match gb δ2 with
      | .ok .nx δ2 => whLoop gt gb m δ2
      | .ok .ct δ2 => whLoop gt gb m δ2
      | .ok .bk δ2 => .ok .nx δ2
      | .ok (.rt r) δ2 => .ok (.rt r) δ2
      | .bad => .bad
      | .ex c f x δ2 => .ex c f x δ2) else .ok .nx δ2) := by
      cases eg : gt δ1 with
      | bad =>
        rw [eg] at h1
        exact h1
      | ex c f x δ2 =>
        rw [eg] at h1
        exact h1
      | ok k δ2 =>
        rw [eg] at h1
        cases k with
        | true => exact h1
        | false => exact h1
    refine q _ _ _ _ _ _ _ R1 (RunS.bind h2 fun k δ2 k' H2 F2 _ R2 s2 ek h3 => ?_)
    have ek' : k = k' := ek
    subst ek'
    cases k with
    | false => exact iteF (h3 _ _ _ _ R2 (Same.refl _))
    | true =>
      refine iteT ⟨fun σ' H' => ∃ A δ F, Rel X.K S Y F A H' σ' δ ∧ RunS X.K X.mg S Y W F E (whLoop gt gb m δ), fun σ' H' w => ⟨m, Nat.lt_succ_self m, w⟩, Y, A1, δ2, F2, R2, ?_⟩
      have h4 : RunS X.K X.mg S Y W F2 E (match gb δ2 with
        | .ok .nx δ2 => whLoop gt gb m δ2
        | .ok .ct δ2 => whLoop gt gb m δ2
        | .ok .bk δ2 => .ok .nx δ2
        | .ok (.rt r) δ2 => .ok (.rt r) δ2
        | .bad => .bad
        | .ex c f x δ2 => .ex c f x δ2) := h3
      cases eb : gb δ2 with
      | bad =>
        simp only [eb] at h4
        exact h4.elim
      | ex c f y δ4 =>
        simp only [eb] at h4
        exact h4
      | ok fl δ4 =>
        simp only [eb] at h4
        cases fl with
        | nx => exact fun σ4 H4 F4 A4 R4 s4 => ⟨A4, δ4, F4, R4, RunS.weak h4 s4⟩
        | ct => exact fun σ4 H4 F4 A4 R4 s4 => ⟨A4, δ4, F4, R4, RunS.weak h4 s4⟩
        | bk => exact fun σ4 H4 F4 A4 R4 s4 => h4 _ _ _ _ R4 s4
        | rt r => exact fun v σ4 H4 F4 A4 R4 s4 q => h4 v _ _ _ _ R4 s4 q
end
end DL
set_option Elab.async false
set_option linter.all false
set_option maxRecDepth 100000
set_option maxHeartbeats 4000000
namespace DL
open PySem PySem.Spec PyProof.Rows L2
/-! ### a def as a function on data -/
inductive RF where
  | bad
  | ok (r : RV) (as : List (Option OC))
  | ex (c f : Str) (x : D) (as : List (Option OC))
def ocAt (δ : SS) (i : Nat) : Option OC := match δ[i]? with
  | some (some (SV.o c)) => some c
  | _ => none
def aft (np : Nat) (δ : SS) : List (Option OC) := (List.range np).map (ocAt δ)
theorem ocAt_some {δ : SS} {i : Nat} {c : OC} (h : ocAt δ i = some c) : δ[i]? = some (some (SV.o c)) := by
  unfold ocAt at h
  split at h
  · rename_i c' e
    rw [e, Option.some.inj h]
  · cases h
theorem aft_some {np j : Nat} {δ : SS} {c : OC} (h : (aft np δ)[j]? = some (some c)) : j < np ∧ δ[j]? = some (some (SV.o c)) := by
  unfold aft at h
  rw [List.getElem?_map] at h
  by_cases hj : j < np
  · rw [List.getElem?_range hj] at h
    exact ⟨hj, ocAt_some (Option.some.inj h)⟩
  · rw [List.getElem?_eq_none (by simpa using hj)] at h
    cases h
def spD (K : Frg) (mg : Str → Option Value) (T : List (Addr × Str)) (np : Nat) (G : List SV → RF) : Sp := fun vs H Q E => ∃ F A svs, vs.length = np ∧ svs.length = np ∧ Rel K ⟨T, np⟩ (innerY F H A (svs.map some)) F A H (vs.map some) (svs.map some) ∧ match G svs with
  | .bad => False
  | .ok r as' => ∀ v F' A' H' σ' δ', Rel K ⟨T, np⟩ (innerY F H A (svs.map some)) F' A' H' σ' δ' → aft np δ' = as' → Same F F' → RvR K ⟨T, np⟩ (innerY F H A (svs.map some)) A' F' H' δ' r v → Q v H'
  | .ex c f x as' => ∀ cls dd F' A' H' σ' δ', Rel K ⟨T, np⟩ (innerY F H A (svs.map some)) F' A' H' σ' δ' → aft np δ' = as' → Same F F' → ExR K mg F' H' c f x cls dd → E cls dd H'
theorem Rel.pad {K : Frg} {S : Sx} {Y : Dy} {F : Hp} {A : Nat → Addr} {H : Hp} {σ : L2.St} {δ : SS} (R : Rel K S Y F A H σ δ) (n : Nat) : Rel K S Y F A H (σ ++ List.replicate n none) (δ ++ List.replicate n none) := by
  have key : ∀ {i : Nat} {x : SV}, (δ ++ List.replicate n none)[i]? = some (some x) → δ[i]? = some (some x) := fun {i x} h => by
    by_cases hl : i < δ.length
    · rwa [List.getElem?_append_left hl] at h
    · rw [List.getElem?_append_right (by omega)] at h
      obtain ⟨_, z⟩ := List.getElem?_eq_some_iff.mp h
      simp at z
  refine ⟨R.sub, R.ntb, R.grow, R.frs, R.kp, R.tabs, by simp [R.len], fun i x h => ?_, fun i c h => R.own i c (key h), fun i j c c' h1 h2 => R.inj i j c c' (key h1) (key h2), R.pin, fun i c hi h => R.oadr i c hi (key h), R.opar⟩
  obtain ⟨v, h1, h2⟩ := R.slot i x (key h)
  exact ⟨v, by rw [List.getElem?_append_left (List.getElem?_eq_some_iff.mp h1).1]; exact h1, h2⟩
@[simp] def toRF (np : Nat) : R Fl → RF
  | .bad => .bad
  | .ok .nx δ => .ok (.d .none) (aft np δ)
  | .ok (.rt r) δ => .ok r (aft np δ)
  | .ok .bk _ => .bad
  | .ok .ct _ => .bad
  | .ex c f x δ => .ex c f x (aft np δ)
def gDef (np m : Nat) (gb : SS → R Fl) : List SV → RF := fun svs => if svs.length = np then toRF np (gb (svs.map some ++ List.replicate m none)) else .bad
section
variable {P : Program} {w : World} {K : Frg} {mg : Str → Option Value} {base : Heap}
theorem fn_D {x qual : Str} {st : Stmt} {f : Addr} {fd : FuncData} {N ps : List Str} {k m : Nat} {T : List (Addr × Str)} {gb : SS → R Fl} (Fn : Fun K x qual st f fd) (Sc : FnScope N ps (defScope st)) (hm : N.length = ps.length + m)
    (hbody : ∀ (cdv : Value) (A : Around) (outer : List Env) (s : Shared) (H : Hp) (E : XK), Room k (A.deeper (envOfC qual (defScope st) s.heap.objs.size f cdv)) →
      STs (cxOf (L2.CX P w) P w K mg base N qual (defScope st) f cdv A outer s H E) ⟨T, ps.length⟩ (fun cls d _ H => E cls d H) (defBody st) gb) :
    FnOk P w K mg base (L2.CX P w) (k + 1) f fd ps (spD K mg T ps.length (gDef ps.length m gb)) := by
  refine Fn.okX Sc (fun vs H Q E h => h.choose_spec.choose_spec.choose_spec.1) fun cdv A outer s H vs Q E hr hsp => ?_
  obtain ⟨t, p, q⟩ := hbody cdv A outer s H E hr
  refine ⟨t, p, ?_⟩
  obtain ⟨F, A0, svs, h1, h2, R0, h3⟩ := hsp
  have R1 := R0.pad m
  have e : L2.start N vs = vs.map some ++ List.replicate m none := by
    unfold L2.start
    rw [h1, hm, Nat.add_sub_cancel_left]
  rw [e]
  refine q _ A0 _ _ _ F _ ?_ R1 ?_
  · show _ = N.length
    rw [hm]
    simp [h1]
  · unfold gDef at h3
    rw [if_pos h2] at h3
    cases eg : gb (svs.map some ++ List.replicate m none) with
    | bad =>
      rw [eg] at h3
      exact h3
    | ex c f x δ =>
      rw [eg] at h3
      exact fun cls dd σ' H' F' A' R' s' ee => h3 cls dd F' A' H' σ' δ R' rfl s' ee
    | ok fl δ =>
      rw [eg] at h3
      cases fl with
      | nx => exact fun σ' H' F' A' R' s' => h3 _ F' A' H' σ' δ R' rfl s' .non
      | bk => exact h3.elim
      | ct => exact h3.elim
      | rt r => exact fun v σ' H' F' A' R' s' rv => h3 v F' A' H' σ' δ R' rfl s' rv
end
/-! ### arguments of a call -/
inductive Ag where
  | v (x : SV)
  | s (i : Nat)
  | f (c : OC)
def AgR (K : Frg) (S : Sx) (Y : Dy) (A : Nat → Addr) (F H : Hp) (δ : SS) : Ag → V → Prop
  | .v (.d x), v => Rp K F x v
  | .v (.q ns), v => ∃ b, v = .ref b ∧ SqL K F b (ns.map V.int)
  | .v (.o _), _ => False
  | .v (.f _), _ => False
  | .s i, v => v = .ref (A i)
  | .f c, v => ρO K S Y A F H δ c v
def AgRs (K : Frg) (S : Sx) (Y : Dy) (A : Nat → Addr) (F H : Hp) (δ : SS) : List Ag → List V → Prop
  | [], [] => True
  | a :: as, v :: vs => AgR K S Y A F H δ a v ∧ AgRs K S Y A F H δ as vs
  | _, _ => False
@[simp] def agId : Ag → Option (Option Nat)
  | .v _ => none
  | .s i => some (some i)
  | .f _ => some none
def agOk (ags : List Ag) : Bool := decide (ags.Pairwise fun a b => agId a = none ∨ agId a ≠ agId b)
@[simp] def res1 (δ : SS) : Ag → Option SV
  | .v x => some x
  | .s i => (ocAt δ i).map .o
  | .f c => some (SV.o c)
@[simp] def resL (δ : SS) : List Ag → Option (List SV)
  | [] => some []
  | a :: as => match res1 δ a with
    | none => none
    | some x => match resL δ as with
      | none => none
      | some xs => some (x :: xs)
def resolve (δ : SS) (ags : List Ag) : Option (List SV) := if agOk ags = true then resL δ ags else none
theorem resL_len {δ : SS} : ∀ {ags : List Ag} {svs : List SV}, resL δ ags = some svs → svs.length = ags.length
  | [], _, h => by cases h; rfl
  | a :: as, svs, h => by
    unfold resL at h
    split at h
    · cases h
    · split at h
      · cases h
      · rename_i xs e
        cases h
        rw [List.length_cons, List.length_cons, resL_len e]
theorem resL_get {δ : SS} : ∀ {ags : List Ag} {svs : List SV} {j : Nat} {x : SV}, resL δ ags = some svs → svs[j]? = some x → ∃ a, ags[j]? = some a ∧ res1 δ a = some x
  | [], _, _, _, h, g => by
    cases h
    simp at g
  | a :: as, svs, j, x, h, g => by
    unfold resL at h
    split at h
    · cases h
    · rename_i y ey
      split at h
      · cases h
      · rename_i xs e
        cases h
        cases j with
        | zero =>
          cases g
          exact ⟨a, rfl, ey⟩
        | succ j => exact resL_get (j := j) e g
theorem resL_res {δ : SS} : ∀ {ags : List Ag} {svs : List SV} {j : Nat} {a : Ag}, resL δ ags = some svs → ags[j]? = some a → ∃ x, svs[j]? = some x ∧ res1 δ a = some x
  | [], _, _, _, h, g => by simp at g
  | a :: as, svs, j, x, h, g => by
    unfold resL at h
    split at h
    · cases h
    · rename_i y ey
      split at h
      · cases h
      · rename_i xs e
        cases h
        cases j with
        | zero =>
          cases g
          exact ⟨y, rfl, ey⟩
        | succ j => exact resL_res (j := j) e g
section
variable {K : Frg} {S : Sx} {Y : Dy} {A : Nat → Addr} {F H : Hp} {δ : SS} {σ : L2.St}
theorem AgRs.len : ∀ {ags : List Ag} {vs : List V}, AgRs K S Y A F H δ ags vs → vs.length = ags.length
  | [], [], _ => rfl
  | [], _ :: _, h => h.elim
  | _ :: _, [], h => h.elim
  | a :: as, v :: vs, h => by
    rw [List.length_cons, List.length_cons, AgRs.len h.2]
theorem AgRs.get : ∀ {ags : List Ag} {vs : List V} {j : Nat} {a : Ag}, AgRs K S Y A F H δ ags vs → ags[j]? = some a → ∃ v, vs[j]? = some v ∧ AgR K S Y A F H δ a v
  | [], _, _, _, _, h => by simp at h
  | _ :: _, [], _, _, h, _ => h.elim
  | a :: as, v :: vs, 0, _, h, g => by
    cases g
    exact ⟨v, rfl, h.1⟩
  | a :: as, v :: vs, j + 1, _, h, g => AgRs.get (j := j) h.2 g
def adOf (vs : List V) (j : Nat) : Addr := match vs[j]? with
  | some (.ref p) => p
  | _ => 0
structure Called (K : Frg) (S : Sx) (Y : Dy) (A : Nat → Addr) (F H : Hp) (δ : SS) (ags : List Ag) (svs : List SV) (vs : List V) (B : Nat → Addr) : Prop where
  rel : Rel K ⟨S.T, ags.length⟩ (innerY F H B (svs.map some)) F B H (vs.map some) (svs.map some)
  lv : vs.length = ags.length
  ls : svs.length = ags.length
  slot : ∀ (j i : Nat), ags[j]? = some (Ag.s i) → B j = A i ∧ ∃ c, δ[i]? = some (some (SV.o c))
  frsh : ∀ (j : Nat) (c : OC), ags[j]? = some (Ag.f c) → Fresh S Y F A H δ (B j)
  own : ∀ (j : Nat) (c : OC), (svs.map some)[j]? = some (some (SV.o c)) → (∃ i : Nat, ags[j]? = some (Ag.s i)) ∨ ∃ c : OC, ags[j]? = some (Ag.f c)
  uniq : ∀ (j k i : Nat), ags[j]? = some (Ag.s i) → ags[k]? = some (Ag.s i) → j = k
theorem agOk_inj {ags : List Ag} (h : agOk ags = true) {j k : Nat} {a b : Ag} (ha : ags[j]? = some a) (hb : ags[k]? = some b) (hn : agId a ≠ none) (e : agId a = agId b) : j = k := by
  have h := of_decide_eq_true h
  obtain ⟨hj, ej⟩ := List.getElem?_eq_some_iff.mp ha
  obtain ⟨hk, ek⟩ := List.getElem?_eq_some_iff.mp hb
  have h' := List.pairwise_iff_getElem.mp h
  rcases Nat.lt_trichotomy j k with z | z | z
  · rcases h' j k hj hk z with q | q
    · rw [ej] at q
      exact absurd q hn
    · rw [ej, ek] at q
      exact absurd e q
  · exact z
  · rcases h' k j hk hj z with q | q
    · rw [ek, ← e] at q
      exact absurd q hn
    · rw [ej, ek] at q
      exact absurd e.symm q
theorem called (Rl : Rel K S Y F A H σ δ) {ags : List Ag} {svs : List SV} {vs : List V} (r : AgRs K S Y A F H δ ags vs) (e : resolve δ ags = some svs) : Called K S Y A F H δ ags svs vs (adOf vs) := by
  unfold resolve at e
  split at e
  case isFalse => cases e
  rename_i ok
  have lv := r.len
  have ls := resL_len e
  have hs : ∀ (j i : Nat), ags[j]? = some (Ag.s i) → adOf vs j = A i ∧ ∃ c, δ[i]? = some (some (SV.o c)) := fun j i h => by
    obtain ⟨v, h1, h2⟩ := r.get h
    obtain ⟨x, h3, h4⟩ := resL_res e h
    have h2' : v = .ref (A i) := h2
    refine ⟨by unfold adOf; rw [h1, h2'], ?_⟩
    have h4 : (ocAt δ i).map SV.o = some x := h4
    cases ho : ocAt δ i with
    | none =>
      rw [ho] at h4
      cases h4
    | some c => exact ⟨c, ocAt_some ho⟩
  have hf : ∀ (j : Nat) (c : OC), ags[j]? = some (Ag.f c) → Fresh S Y F A H δ (adOf vs j) ∧ ∃ o, H (adOf vs j) = some o ∧ OR K F c o ∧ vs[j]? = some (.ref (adOf vs j)) := fun j c h => by
    obtain ⟨v, h1, p, o, h2, h3, h4, h5⟩ := r.get h
    have ep : adOf vs j = p := by
      unfold adOf
      rw [h1, h2]
    rw [ep]
    exact ⟨h5, o, h3, h4, by rw [h1, h2]⟩
  have ow : ∀ (j : Nat) (c : OC), (svs.map some)[j]? = some (some (SV.o c)) → (∃ i : Nat, ags[j]? = some (Ag.s i)) ∨ ∃ c : OC, ags[j]? = some (Ag.f c) := fun j c h => by
    have h' : svs[j]? = some (SV.o c) := by simpa using h
    obtain ⟨a, h1, h2⟩ := resL_get e h'
    cases a with
    | v x =>
      cases h2
      obtain ⟨v, _, h4⟩ := r.get h1
      exact h4.elim
    | s i => exact .inl ⟨i, h1⟩
    | f c => exact .inr ⟨c, h1⟩
  have hF : ∀ (j : Nat) (c : OC), (svs.map some)[j]? = some (some (SV.o c)) → F (adOf vs j) = none := fun j c h => by
    rcases ow j c h with ⟨i, z⟩ | ⟨c', z⟩
    · obtain ⟨e1, c1, e2⟩ := hs j i z
      rw [e1]
      exact (Rl.own i c1 e2).1
    · exact (hf j c' z).1.f
  have lt : ∀ (j : Nat) (x : SV), (svs.map some)[j]? = some (some x) → j < ags.length := fun j x h => by
    have := (List.getElem?_eq_some_iff.mp h).1
    rw [List.length_map, ls] at this
    exact this
  refine ⟨⟨Rl.sub, Rl.ntb, Same.refl F, fun b q => .inl q, Kp.refl _ _ _, Rl.tabs, by simp [lv, ls], fun j x h => ?_, fun j c h => ⟨hF j c h, .inl (lt j _ h)⟩, fun j k c c' h1 h2 ee => ?_, fun _ _ => rfl, fun j c _ h => ⟨j, c, h, rfl⟩, fun a ⟨j, c, h, ea⟩ => ?_⟩, lv, ls, hs, fun j c h => (hf j c h).1, ow, fun j k i h1 h2 => agOk_inj ok h1 h2 (by simp [agId]) rfl⟩
  · have h' : svs[j]? = some x := by simpa using h
    obtain ⟨a, h1, h2⟩ := resL_get e h'
    obtain ⟨v, h3, h4⟩ := r.get h1
    refine ⟨v, by simp [h3], ?_⟩
    cases a with
    | v y =>
      cases h2
      cases x with
      | d d => exact h4
      | o c => exact h4.elim
      | q ns => exact h4
      | f kvs => exact h4.elim
    | s i =>
      have h2 : (ocAt δ i).map SV.o = some x := h2
      cases ho : ocAt δ i with
      | none =>
        rw [ho] at h2
        cases h2
      | some c =>
        rw [ho] at h2
        cases h2
        have h4' : v = .ref (A i) := h4
        obtain ⟨o, _, g2, g3⟩ := Rl.own_at (ocAt_some ho)
        have ea := (hs j i h1).1
        exact ⟨by rw [ea]; exact h4', o, by rw [ea]; exact g2, g3⟩
    | f c =>
      cases h2
      obtain ⟨_, o, g1, g2, g3⟩ := hf j c h1
      rw [h3] at g3
      exact ⟨Option.some.inj g3, o, g1, g2⟩
  · rcases ow j c h1 with ⟨i, z⟩ | ⟨d, z⟩
    · obtain ⟨a1, c1, a2⟩ := hs j i z
      rcases ow k c' h2 with ⟨i', z'⟩ | ⟨d', z'⟩
      · obtain ⟨b1, c2, b2⟩ := hs k i' z'
        rw [a1, b1] at ee
        have ei := Rl.inj i i' _ _ a2 b2 ee
        subst ei
        exact agOk_inj ok z z' (by simp [agId]) rfl
      · rw [a1] at ee
        exact absurd ee ((hf k d' z').1.ne i c1 a2)
    · rcases ow k c' h2 with ⟨i', z'⟩ | ⟨d', z'⟩
      · obtain ⟨b1, c2, b2⟩ := hs k i' z'
        rw [b1] at ee
        exact absurd ee.symm ((hf j d z).1.ne i' c2 b2)
      · exact agOk_inj ok z z' (by simp [agId]) rfl
  · show F a = none
    rw [← ea]
    exact hF j c h
/-- what is written back -/
@[simp] def wb (δ : SS) : List Ag → List (Option OC) → SS
  | .s i :: ags, a :: as => (wb δ ags as).set i (a.map .o)
  | _ :: ags, _ :: as => wb δ ags as
  | _, _ => δ
theorem wb_length (δ : SS) : ∀ (ags : List Ag) (as : List (Option OC)), (wb δ ags as).length = δ.length
  | [], _ => rfl
  | _ :: _, [] => by cases ‹Ag› <;> rfl
  | .s i :: ags, a :: as => by
    show ((wb δ ags as).set i (a.map .o)).length = _
    rw [List.length_set, wb_length]
  | .v _ :: ags, _ :: as => wb_length δ ags as
  | .f _ :: ags, _ :: as => wb_length δ ags as
theorem wb_some {δ : SS} {i : Nat} {x : SV} : ∀ {ags : List Ag} {as : List (Option OC)}, as.length = ags.length → (wb δ ags as)[i]? = some (some x) → (∃ (j : Nat) (c : OC), ags[j]? = some (Ag.s i) ∧ as[j]? = some (some c) ∧ x = .o c) ∨ (δ[i]? = some (some x) ∧ ∀ j : Nat, ags[j]? ≠ some (Ag.s i))
  | [], [], _, h => .inr ⟨h, fun j => by simp⟩
  | [], _ :: _, e, _ => by cases e
  | _ :: _, [], e, _ => by cases e
  | .v y :: ags, a :: as, e, h => by
    rcases wb_some (ags := ags) (as := as) (by simpa using e) h with ⟨j, c, h1, h2, h3⟩ | ⟨h1, h2⟩
    · exact .inl ⟨j + 1, c, h1, h2, h3⟩
    · refine .inr ⟨h1, fun j z => ?_⟩
      cases j with
      | zero => cases z
      | succ j => exact h2 j z
  | .f y :: ags, a :: as, e, h => by
    rcases wb_some (ags := ags) (as := as) (by simpa using e) h with ⟨j, c, h1, h2, h3⟩ | ⟨h1, h2⟩
    · exact .inl ⟨j + 1, c, h1, h2, h3⟩
    · refine .inr ⟨h1, fun j z => ?_⟩
      cases j with
      | zero => cases z
      | succ j => exact h2 j z
  | .s k :: ags, a :: as, e, h => by
    have h' : ((wb δ ags as).set k (a.map .o))[i]? = some (some x) := h
    by_cases ek : k = i
    · subst ek
      cases a with
      | none =>
        obtain ⟨z, _⟩ := set_none h'
        exact absurd rfl z
      | some c =>
        rcases set_some (x := SV.o c) h' with ⟨_, z, _⟩ | ⟨z, _⟩
        · exact .inl ⟨0, c, rfl, rfl, z.symm⟩
        · exact absurd rfl z
    · rw [List.getElem?_set_ne ek] at h'
      rcases wb_some (ags := ags) (as := as) (by simpa using e) h' with ⟨j, c, h1, h2, h3⟩ | ⟨h1, h2⟩
      · exact .inl ⟨j + 1, c, h1, h2, h3⟩
      · refine .inr ⟨h1, fun j z => ?_⟩
        cases j with
        | zero =>
          cases z
          exact ek rfl
        | succ j => exact h2 j z
theorem Rel.back (Rl : Rel K S Y F A H σ δ) {ags : List Ag} {svs : List SV} {vs : List V} {B : Nat → Addr} (C : Called K S Y A F H δ ags svs vs B) {F' H' : Hp} {A' : Nat → Addr} {σ' : L2.St} {δ' : SS}
    (Ri : Rel K ⟨S.T, ags.length⟩ (innerY F H B (svs.map some)) F' A' H' σ' δ') : Rel K S Y F' A H' σ (wb δ ags (aft ags.length δ')) := by
  have la : (aft ags.length δ').length = ags.length := by simp [aft]
  have pin : ∀ {j : Nat}, j < ags.length → A' j = B j := fun h => Ri.pin _ h
  have oo : ∀ {i : Nat} {c : OC}, (wb δ ags (aft ags.length δ'))[i]? = some (some (SV.o c)) → ∃ c0, δ[i]? = some (some (SV.o c0)) := fun {i c} h => by
    rcases wb_some la h with ⟨j, c', h1, h2, h3⟩ | ⟨h1, _⟩
    · exact (C.slot j i h1).2
    · exact ⟨c, h1⟩
  have inO : ∀ b, ownSet B (svs.map some) b → (∃ (j i : Nat), ags[j]? = some (Ag.s i) ∧ b = A i ∧ ∃ c, δ[i]? = some (some (SV.o c))) ∨ Fresh S Y F A H δ b := fun b ⟨j, c, h1, h2⟩ => by
    rcases C.own j c h1 with ⟨i, z⟩ | ⟨d, z⟩
    · exact .inl ⟨j, i, z, by rw [← h2]; exact (C.slot j i z).1, (C.slot j i z).2⟩
    · exact .inr (by rw [← h2]; exact C.frsh j d z)
  refine ⟨Ri.sub, Ri.ntb, Rl.grow.trans Ri.grow, fun b q => ?_, ⟨fun b o q nO nt => ?_, fun b q => Rl.kp.dom b (Ri.kp.dom b q)⟩, Ri.tabs, by rw [wb_length]; exact Rl.len, fun i x h => ?_, fun i c h => ?_, fun i j c c' h1 h2 => ?_, Rl.pin, fun i c hi h => ?_, Rl.opar⟩
  · rcases Ri.frs b q with z | z
    · exact Rl.frs b z
    · exact .inr (Rl.kp.dom b z)
  · have q1 := Rl.kp.keep b o q nO nt
    refine Ri.kp.keep b o q1 (fun z => ?_) nt
    rcases inO b z with ⟨j, i, _, e2, c, e3⟩ | fr
    · rcases (Rl.own i c e3).2 with z | z
      · exact nO (by rw [e2]; exact Rl.oadr i c z e3)
      · obtain ⟨ps, y⟩ := z o (by rw [← e2]; exact q)
        exact nt ps y
    · obtain ⟨ps, y⟩ := fr.h0 o q
      exact nt ps y
  · rcases wb_some la h with ⟨j, c', h1, h2, rfl⟩ | ⟨h1, h2⟩
    · obtain ⟨e1, c1, e2⟩ := C.slot j i h1
      obtain ⟨o, g1, _, _⟩ := Rl.own_at e2
      obtain ⟨lj, hj⟩ := aft_some h2
      obtain ⟨o', _, g2, g3⟩ := Ri.own_at hj
      rw [pin lj, e1] at g2
      exact ⟨_, g1, rfl, o', g2, g3⟩
    · obtain ⟨v, g1, g2⟩ := Rl.slot i x h1
      refine ⟨v, g1, g2.mono Ri.grow (fun c o e q => ?_) fun b od ws q => Ri.kp.keep b _ q (fun ⟨j, c, k1, k2⟩ => ?_) fun ps z => nomatch z⟩
      rotate_left
      · obtain ⟨o, _, k3, k4⟩ := C.rel.own_at k1
        have q' : H b = some (.frz od (.dK ws)) := q
        rw [k2, q'] at k3
        cases k3
        cases k4
      subst e
      have nO : ¬ ownSet B (svs.map some) (A i) := fun z => by
        rcases inO _ z with ⟨j, k, hj, e2, c', e3⟩ | fr
        · have := Rl.inj i k _ _ h1 e3 e2
          subst this
          exact h2 j hj
        · exact fr.ne i _ h1 rfl
      refine Ri.kp.keep _ _ q nO fun ps z => ?_
      obtain ⟨_, o2, q2, r2⟩ := g2
      have q3 : H (A i) = some o := q
      rw [q3] at q2
      cases q2
      exact r2.ntb ps z
  · rcases wb_some la h with ⟨j, c', h1, h2, e0⟩ | ⟨h1, h2⟩
    · obtain ⟨e1, c1, e2⟩ := C.slot j i h1
      obtain ⟨lj, hj⟩ := aft_some h2
      have g := (Ri.own j c' hj).1
      rw [pin lj, e1] at g
      exact ⟨g, (Rl.own i c1 e2).2⟩
    · refine ⟨?_, (Rl.own i c h1).2⟩
      cases hf : F' (A i) with
      | none => rfl
      | some o =>
        rcases Ri.frs (A i) (by rw [hf]; simp) with z | z
        · exact absurd (Rl.own i c h1).1 z
        · obtain ⟨o2, _, q2, r2⟩ := Rl.own_at h1
          obtain ⟨ps, y⟩ := (show NT H (A i) from z) _ q2
          exact absurd y (r2.ntb ps)
  · obtain ⟨c0, g1⟩ := oo h1
    obtain ⟨c1, g2⟩ := oo h2
    exact Rl.inj i j _ _ g1 g2
  · obtain ⟨c0, g1⟩ := oo h
    exact Rl.oadr i c0 hi g1
theorem back_fresh (Rl : Rel K S Y F A H σ δ) {ags : List Ag} {svs : List SV} {B : Nat → Addr} {F' H' : Hp} {A' : Nat → Addr} {δ' : SS} {as : List (Option OC)} (la : as.length = ags.length) {c : OC} {v : V} (hsl : ∀ (j i : Nat), ags[j]? = some (Ag.s i) → ∃ c, δ[i]? = some (some (SV.o c)))
    (h : ρO K ⟨S.T, ags.length⟩ (innerY F H B (svs.map some)) A' F' H' δ' c v) : ρO K S Y A F' H' (wb δ ags as) c v := by
  obtain ⟨p, o, h1, h2, h3, fr⟩ := h
  have h0 : NT H p := fr.h0
  refine ⟨p, o, h1, h2, h3, fr.f, Rl.kp.dom p h0, fun i c' hi e => ?_⟩
  have : ∃ c0, δ[i]? = some (some (SV.o c0)) := by
    rcases wb_some la hi with ⟨j, c2, k1, _, _⟩ | ⟨k1, _⟩
    · exact hsl j i k1
    · exact ⟨c', k1⟩
  obtain ⟨c0, k⟩ := this
  obtain ⟨o2, _, q2, r2⟩ := Rl.own_at k
  obtain ⟨ps, y⟩ := h0 o2 (by rw [← e]; exact q2)
  exact r2.ntb ps y
end
/-! ### calls -/
def AGV (X : Cx) (S : Sx) (W : WX) (es : List Expr) (g : SS → R (List Ag)) : Prop :=
  ∃ t, PA X es t ∧ ∀ Y A σ H δ F Q, Rel X.K S Y F A H σ δ → Run X.K X.mg S Y A σ W (fun F' H' δ' ags vs => AgRs X.K S Y A F' H' δ' ags vs) F (g δ) Q → t σ H Q
def AGK (X : Cx) (S : Sx) (W : WX) (es : List Keyword) (g : SS → R (List Ag)) : Prop :=
  ∃ t, PK X es t ∧ ∀ Y A σ H δ F Q, Rel X.K S Y F A H σ δ → Run X.K X.mg S Y A σ W (fun F' H' δ' ags vs => AgRs X.K S Y A F' H' δ' ags vs) F (g δ) Q → t σ H Q
def RVJ (X : Cx) (S : Sx) (W : WX) (e : Expr) (g : SS → R RV) : Prop :=
  ∃ t, PE X e t ∧ ∀ Y A σ H δ F Q, Rel X.K S Y F A H σ δ → Run X.K X.mg S Y A σ W (fun F' H' δ' r v => RvR X.K S Y A F' H' δ' r v) F (g δ) Q → t σ H Q
def gAg0 : SS → R (List Ag) := fun δ => .ok [] δ
def gAgD (g : SS → R D) (gs : SS → R (List Ag)) : SS → R (List Ag) := fun δ => (g δ).bind fun x δ1 => (gs δ1).bind fun xs δ2 => .ok (.v (.d x) :: xs) δ2
def gAgS (i : Nat) (gs : SS → R (List Ag)) : SS → R (List Ag) := fun δ => match δ[i]? with
  | some (some (SV.o _)) => (gs δ).bind fun xs δ2 => .ok (.s i :: xs) δ2
  | some (some (SV.q ns)) => (gs δ).bind fun xs δ2 => .ok (.v (.q ns) :: xs) δ2
  | _ => .bad
def gAgF (g : SS → R OC) : SS → R (List Ag) := fun δ => (g δ).bind fun c δ1 => .ok [.f c] δ1
section
variable {X : Cx} {S : Sx} {W : WX} {e : Expr} {es : List Expr} {kws : List Keyword} {pos p : Pos} {ga : SS → R D} {gs : SS → R (List Ag)}
theorem ag_nil : AGV X S W [] gAg0 := ⟨_, pa_nil, fun Y A σ H δ F Q Rl h => h _ _ _ Rl (Same.refl _) trivial⟩
theorem ag_d (h : EV X S W e ga) (h2 : AGV X S W es gs) (hs : starEach (e :: es) X.env = (false, eval e X.env) :: starEach es X.env := by rfl) : AGV X S W (e :: es) (gAgD ga gs) := by
  obtain ⟨t, p, q⟩ := h
  obtain ⟨t2, p2, q2⟩ := h2
  refine ⟨_, pa_cons p p2 hs, fun Y A σ H δ F Q Rl hr => q _ _ _ _ _ _ _ Rl (Run.bind hr fun x δ1 v H1 F1 _ R1 s1 rx h1 => ?_)⟩
  refine q2 _ _ _ _ _ _ _ R1 (Run.bind h1 fun y δ2 u H2 F2 e2 R2 s2 ry h2 => ?_)
  exact h2 _ _ _ R2 (Same.refl _) ⟨rx.mono s2, ry⟩
theorem agS_run {t te : TE} {ta : TA} {i : Nat} (qv : ∀ σ H Q v, σ[i]? = some (some v) → Q v H → te σ H Q) (q2 : ∀ Y A σ H δ F Q, Rel X.K S Y F A H σ δ → Run X.K X.mg S Y A σ W (fun F' H' δ' ags vs => AgRs X.K S Y A F' H' δ' ags vs) F (gs δ) Q → ta σ H Q) :
    ∀ Y A σ H δ F Q, Rel X.K S Y F A H σ δ → Run X.K X.mg S Y A σ W (fun F' H' δ' ags vs => AgRs X.K S Y A F' H' δ' ags vs) F (gAgS i gs δ) Q → tCons te ta σ H Q := fun Y A σ H δ F Q Rl hr => by
  unfold gAgS at hr
  split at hr
  · rename_i c e
    obtain ⟨o, h1, h2, h3⟩ := Rl.own_at e
    refine qv _ _ _ _ h1 (q2 _ _ _ _ _ _ _ Rl (Run.bind hr fun y δ2 u H2 F2 e2 R2 s2 ry h2 => ?_))
    exact h2 _ _ _ R2 (Same.refl _) ⟨rfl, ry⟩
  · rename_i ns e
    obtain ⟨v, h1, b, h2, h3⟩ := Rl.slot i _ e
    refine qv _ _ _ _ h1 (q2 _ _ _ _ _ _ _ Rl (Run.bind hr fun y δ2 u H2 F2 e2 R2 s2 ry h4 => ?_))
    exact h4 _ _ _ R2 (Same.refl _) ⟨⟨b, h2, s2.seq h3⟩, ry⟩
  · exact hr.elim
theorem ag_s (i : Nat) {x : Str} (h2 : AGV X S W es gs) (hN : X.N[i]? = some x := by rfl) (hv : Vis X.env.scope x := by first | exact Or.inl rfl | exact Or.inr (Or.inl rfl) | exact Or.inr (Or.inr rfl)) (hd : (x == ("__debug__" : Str)) = false := by decide)
    (hcd : (x == ("__classdict__" : Str)) = false := by decide) (hs : starEach ((.Name x p) :: es) X.env = (false, eval (.Name x p) X.env) :: starEach es X.env := by rfl) : AGV X S W ((.Name x p) :: es) (gAgS i gs) := by
  obtain ⟨t2, p2, q2⟩ := h2
  exact ⟨_, pa_cons (pe_var hN hv hd hcd) p2 hs, agS_run (i := i) (t := tVar i) (fun σ H Q v h1 hq => ⟨v, h1, hq⟩) q2⟩
theorem ag_f {go : SS → R OC} (h : EO X S W e go) (hs : starEach [e] X.env = (false, eval e X.env) :: starEach [] X.env := by rfl) : AGV X S W [e] (gAgF go) := by
  obtain ⟨t, p, q⟩ := h
  refine ⟨_, pa_cons p pa_nil hs, fun Y A σ H δ F Q Rl hr => q _ _ _ _ _ _ _ Rl (Run.bind hr fun x δ1 v H1 F1 _ R1 s1 rx h1 => ?_)⟩
  exact h1 _ _ _ R1 (Same.refl _) ⟨rx, trivial⟩
theorem agk_nil : AGK X S W [] gAg0 := ⟨_, pk_nil, fun Y A σ H δ F Q Rl h => h _ _ _ Rl (Same.refl _) trivial⟩
theorem agk_d {nm : Option Str} {kpos : Pos} (h : EV X S W e ga) (h2 : AGK X S W kws gs) : AGK X S W (⟨nm, e, kpos⟩ :: kws) (gAgD ga gs) := by
  obtain ⟨t, p, q⟩ := h
  obtain ⟨t2, p2, q2⟩ := h2
  refine ⟨_, pk_cons p p2, fun Y A σ H δ F Q Rl hr => q _ _ _ _ _ _ _ Rl (Run.bind hr fun x δ1 v H1 F1 _ R1 s1 rx h1 => ?_)⟩
  refine q2 _ _ _ _ _ _ _ R1 (Run.bind h1 fun y δ2 u H2 F2 e2 R2 s2 ry h2 => ?_)
  exact h2 _ _ _ R2 (Same.refl _) ⟨rx.mono s2, ry⟩
def gCallA (np : Nat) (G : List SV → RF) (ags : List Ag) (δ : SS) : R RV := if ags.length = np then (match resolve δ ags with
  | none => .bad
  | some svs => match G svs with
    | .bad => .bad
    | .ok r as => .ok r (wb δ ags as)
    | .ex c f x as => .ex c f x (wb δ ags as)) else .bad
def gCallR (np : Nat) (G : List SV → RF) (gs : SS → R (List Ag)) : SS → R RV := fun δ => (gs δ).bind (gCallA np G)
theorem callA_sp {np : Nat} {G : List SV → RF} {ags : List Ag} {δ : SS} {Y : Dy} {A : Nat → Addr} {σ : L2.St} {F H : Hp} {Q : VK} {vs : List V} (Rl : Rel X.K S Y F A H σ δ) (r : AgRs X.K S Y A F H δ ags vs)
    (h : Run X.K X.mg S Y A σ W (fun F' H' δ' r v => RvR X.K S Y A F' H' δ' r v) F (gCallA np G ags δ) Q) : spD X.K X.mg S.T np G vs H Q (WE W σ) := by
  unfold gCallA at h
  split at h
  case isFalse => exact h.elim
  rename_i hn
  split at h
  · exact h.elim
  · rename_i svs es
    have C := called Rl r es
    refine ⟨F, adOf vs, svs, by rw [C.lv]; exact hn, by rw [C.ls]; exact hn, by rw [← hn]; exact C.rel, ?_⟩
    subst hn
    have sl : ∀ (j i : Nat), ags[j]? = some (Ag.s i) → ∃ c, δ[i]? = some (some (SV.o c)) := fun j i z => (C.slot j i z).2
    cases eg : G svs with
    | bad =>
      simp only [eg] at h
      exact h.elim
    | ok rv as =>
      simp only [eg] at h
      intro v F' A' H' σ' δ' Ri ea s' rr
      have Rb := Rl.back C Ri
      rw [ea] at Rb
      refine h v H' F' Rb s' ?_
      cases rv with
      | d x => exact rr
      | o c => exact back_fresh Rl (by rw [← ea]; simp [aft]) sl rr
    | ex c f x as =>
      simp only [eg] at h
      intro cls dd F' A' H' σ' δ' Ri ea s' ee
      have Rb := Rl.back C Ri
      rw [ea] at Rb
      exact h cls dd H' F' Rb s' ee
variable {k np : Nat} {f : Addr} {fd : FuncData} {ps : List Str} {x : Str} {G : List SV → RF}
theorem rv_call (F : FnOk X.prog X.w X.K X.mg X.base (L2.CX X.prog X.w) k f fd ps (spD X.K X.mg S.T np G)) (hr : Room k X.A) (hm : X.mg x = some (.ref f)) (hk : PySem.W.keepIn X.K (.ref f) = true) (hb : Binds X.K fd ps []) (tk : Takes X W)
    (ha : AGV X S W (e :: es) gs) (hg : Gl X x := by rfl) (hdb : (x == ("__debug__" : Str)) = false := by decide) (he : starEach (e :: es) X.env = (false, eval e X.env) :: starEach es X.env := by rfl) (hpl : (backTo pos (starEach es X.env)).any (·.1) = false := by rfl) :
    RVJ X S W (.Call (.Name x p) (e :: es) [] pos) (gCallR np G gs) := by
  obtain ⟨t, pa, q⟩ := ha
  exact ⟨_, pe_callS F hr hg hm hk hb (passAt tk) pa hdb he hpl, fun Y A σ H δ F Q Rl h => q _ _ _ _ _ _ _ Rl (Run.bind h fun ags δ1 vs H1 F1 _ R1 s1 rx h1 => callA_sp R1 rx h1)⟩
def gCall (np : Nat) (G : List SV → RF) (gs : SS → R (List Ag)) : SS → R D := fun δ => (gCallR np G gs δ).bind fun r δ1 => .ok r.toD δ1
def gCallO (np : Nat) (G : List SV → RF) (gs : SS → R (List Ag)) : SS → R OC := fun δ => (gCallR np G gs δ).bind fun r δ1 => match r with
  | .o c => .ok c δ1
  | .d _ => .bad
theorem ev_rv (h : RVJ X S W e (gCallR np G gs)) : EV X S W e (gCall np G gs) := by
  obtain ⟨t, p, q⟩ := h
  refine ⟨t, p, fun Y A σ H δ F Q Rl h => q _ _ _ _ _ _ _ Rl (Run.bind h fun r δ1 v H1 F1 _ R1 s1 rx h1 => ?_)⟩
  cases r with
  | d x => exact h1 _ _ _ R1 (Same.refl _) rx
  | o c =>
    obtain ⟨p, o, e1, e2, r, fr⟩ := rx
    subst e1
    exact h1 _ _ _ (R1.freeze e2 fr r.ntb) (same_upd fr.f) ((r.mono (same_upd fr.f)).rp upd_same)
theorem eo_rv (h : RVJ X S W e (gCallR np G gs)) : EO X S W e (gCallO np G gs) := by
  obtain ⟨t, p, q⟩ := h
  refine ⟨t, p, fun Y A σ H δ F Q Rl h => q _ _ _ _ _ _ _ Rl (Run.bind h fun r δ1 v H1 F1 _ R1 s1 rx h1 => ?_)⟩
  cases r with
  | d x => exact h1.elim
  | o c => exact h1 _ _ _ R1 (Same.refl _) rx
/-! keywords: π puts what is given in the parameters' order -/
@[simp] def pick {α : Type} (π : List Nat) (xs : List α) : List α := π.filterMap (xs[·]?)
theorem AgRs.append {Y : Dy} {A : Nat → Addr} {F H : Hp} {δ : SS} : ∀ {as bs : List Ag} {vs us : List V}, AgRs X.K S Y A F H δ as vs → AgRs X.K S Y A F H δ bs us → AgRs X.K S Y A F H δ (as ++ bs) (vs ++ us)
  | [], _, [], _, _, h => h
  | [], _, _ :: _, _, h, _ => h.elim
  | _ :: _, _, [], _, h, _ => h.elim
  | a :: as, bs, v :: vs, us, h, h2 => ⟨h.1, AgRs.append h.2 h2⟩
theorem AgRs.pick {Y : Dy} {A : Nat → Addr} {F H : Hp} {δ : SS} {as : List Ag} {vs : List V} (h : AgRs X.K S Y A F H δ as vs) : ∀ π : List Nat, AgRs X.K S Y A F H δ (DL.pick π as) (DL.pick π vs)
  | [] => trivial
  | i :: π => by
    have ih := AgRs.pick h π
    unfold DL.pick at ih ⊢
    cases ea : as[i]? with
    | none =>
      have ev : vs[i]? = none := by
        rw [List.getElem?_eq_none_iff] at ea ⊢
        rw [h.len]
        exact ea
      rw [List.filterMap_cons_none ea, List.filterMap_cons_none ev]
      exact ih
    | some a =>
      obtain ⟨v, ev, r⟩ := h.get ea
      rw [List.filterMap_cons_some ea, List.filterMap_cons_some ev]
      exact ⟨r, ih⟩
theorem vals_append {as bs : List V} {us ws : List Value} (h : Vals as us) (h2 : Vals bs ws) : Vals (as ++ bs) (us ++ ws) := by
  induction h with
  | nil => exact h2
  | cons a b ih => exact .cons a ih
theorem vals_get {as : List V} {us : List Value} (h : Vals as us) : ∀ {i : Nat} {x : V}, as[i]? = some x → ∃ u, us[i]? = some u ∧ RelV x u := by
  induction h with
  | nil => intro i x e; simp at e
  | cons a b ih =>
    intro i x e
    cases i with
    | zero =>
      cases e
      exact ⟨_, rfl, a⟩
    | succ i => exact ih (i := i) e
theorem vals_pick {as : List V} {us : List Value} (h : Vals as us) : ∀ π : List Nat, Vals (pick π as) (pick π us)
  | [] => .nil
  | i :: π => by
    have ih := vals_pick h π
    unfold pick at ih ⊢
    cases ea : as[i]? with
    | none =>
      have ev : us[i]? = none := by
        rw [List.getElem?_eq_none_iff] at ea ⊢
        rw [← h.length]
        exact ea
      rw [List.filterMap_cons_none ea, List.filterMap_cons_none ev]
      exact ih
    | some a =>
      obtain ⟨v, ev, r⟩ := vals_get h ea
      rw [List.filterMap_cons_some ea, List.filterMap_cons_some ev]
      exact .cons r ih
def KB (K : Frg) (fd : FuncData) (ps ks : List Str) (π : List Nat) (m : Nat) : Prop := ∀ (s : Shared) (us ws : List Value), K.In s.heap → us.length = m → ws.length = ks.length → BindsTo s fd ⟨us, ks.zip ws⟩ (ps.zip (pick π (us ++ ws)))
def gCallK (np m mk : Nat) (π : List Nat) (G : List SV → RF) (gs gk : SS → R (List Ag)) : SS → R RV := fun δ => (gs δ).bind fun as δ1 => (gk δ1).bind fun bs δ2 => if as.length = m ∧ bs.length = mk then gCallA np G (pick π (as ++ bs)) δ2 else .bad
def noF (ags : List Ag) : Bool := ags.all fun a => match a with | .f _ => false | _ => true
theorem AgRs.later {Y : Dy} {A : Nat → Addr} {F H F' H' : Hp} {δ δ' : SS} (s : Same F F') : ∀ {as : List Ag} {vs : List V}, noF as = true → AgRs X.K S Y A F H δ as vs → AgRs X.K S Y A F' H' δ' as vs
  | [], [], _, h => h
  | [], _ :: _, _, h => h.elim
  | _ :: _, [], _, h => h.elim
  | .v (.d x) :: as, v :: vs, n, h => ⟨Rp.mono s h.1, AgRs.later s (by simpa [noF] using n) h.2⟩
  | .v (.q x) :: as, v :: vs, n, h => ⟨by obtain ⟨b, h1, h2⟩ := h.1; exact ⟨b, h1, s.seq h2⟩, AgRs.later s (by simpa [noF] using n) h.2⟩
  | .v (.o x) :: as, v :: vs, n, h => h.1.elim
  | .v (.f x) :: as, v :: vs, n, h => h.1.elim
  | .s i :: as, v :: vs, n, h => ⟨h.1, AgRs.later s (by simpa [noF] using n) h.2⟩
  | .f c :: as, v :: vs, n, h => by simp [noF] at n
def gCallKN (np m mk : Nat) (π : List Nat) (G : List SV → RF) (gs gk : SS → R (List Ag)) : SS → R RV := fun δ => (gs δ).bind fun as δ1 => if noF as = true then (gk δ1).bind (fun bs δ2 => if as.length = m ∧ bs.length = mk then gCallA np G (pick π (as ++ bs)) δ2 else .bad) else .bad
theorem run_fnK {pins : List (Addr × Obj)} {σ : L2.St} {H : Hp} {s : Shared} {Q : VK} {us ws : List Value} {vs zs : List V} {ks : List Str} {m : Nat} {π : List Nat} {sp : Sp} (F : FnOk X.prog X.w X.K X.mg X.base (L2.CX X.prog X.w) k f fd ps sp) (hr : Room k X.A) (hb : KB X.K fd ps ks π m) (tk : Takes X W)
    (I : Inv X pins σ H s) (r : Vals vs us) (rz : Vals zs ws) (l1 : vs.length = m) (l2 : zs.length = ks.length) (h : sp (pick π (vs ++ zs)) H Q (WE W σ)) : wpAny (model X.prog X.w) X.A (call (.ref f) us (ks.zip ws)) (L2.EP X pins σ Q) X.xe s := by
  have r2 := vals_pick (vals_append r rz) π
  refine wpAny_call (codeAny_mono (F.run X.A X.stack s H ⟨us, ks.zip ws⟩ _ _ Q (WE W σ) hr I.env0 (hb s us ws I.kIn (by rw [← r.length]; exact l1) (by rw [← rz.length]; exact l2)) r2 h) fun r s' hq => ?_)
  cases r with
  | error e => exact passAt tk σ pins H s e s' I hq
  | ok fl =>
    cases fl with
    | ret u => exact I.after hq
    | next => exact False.elim hq
    | brk => exact False.elim hq
    | cont => exact False.elim hq
def tCallKS (sp : Sp) (π : List Nat) (m mk : Nat) (W : WX) (t tk : TA) : TE := fun σ H Q => t σ H fun vs H1 => tk σ H1 fun zs H2 => vs.length = m ∧ zs.length = mk ∧ sp (pick π (vs ++ zs)) H2 Q (WE W σ)
theorem pe_callKS {ks : List Str} {m : Nat} {π : List Nat} {sp : Sp} {t tk : TA} (F : FnOk X.prog X.w X.K X.mg X.base (L2.CX X.prog X.w) k f fd ps sp) (hr : Room k X.A) (hg : Gl X x) (hm : X.mg x = some (.ref f)) (hk : PySem.W.keepIn X.K (.ref f) = true) (hb : KB X.K fd ps ks π m) (hx : Takes X W)
    (ha : PA X (e :: es) t) (hkw : PK X kws tk) (hall : (backToKw pos (keywordEach kws X.env)).all (·.1.isSome) = true := by rfl) (hks : (backToKw pos (keywordEach kws X.env)).filterMap (·.1) = ks := by rfl)
    (hdb : (x == ("__debug__" : Str)) = false := by decide) (he : starEach (e :: es) X.env = (false, eval e X.env) :: starEach es X.env := by rfl)
    (hpl : ((backTo pos (starEach (e :: es) X.env)).any (·.1) || (backToKw pos (keywordEach kws X.env)).any (·.1.isNone)) = false := by rfl) :
    PE X (.Call (.Name x p) (e :: es) kws pos) (tCallKS sp π m ks.length W t tk) := by
  refine ⟨fun pins s σ H Q I h => ?_⟩
  refine wpAny_Call_Name_kw (ld_glob I hg hm ?_ hdb)
  refine PySem.W.callWith_KW (h₀ := X.base) I.ok.mod.kin hk hall (thn (ha.run pos pins s σ H _ I h) fun us s1 ⟨vs, H1, I1, r, q⟩ => ?_) hpl he
  refine thn (hkw.run pos pins s1 σ H1 _ I1 q) fun ws s2 ⟨zs, H2, I2, rz, l1, l2, q2⟩ => ⟨I2.kIn, ?_⟩
  rw [hks]
  exact run_fnK F hr hb hx I2 r rz l1 l2 q2
theorem pe_callKS0 {ks : List Str} {π : List Nat} {sp : Sp} {tk : TA} (F : FnOk X.prog X.w X.K X.mg X.base (L2.CX X.prog X.w) k f fd ps sp) (hr : Room k X.A) (hg : Gl X x) (hm : X.mg x = some (.ref f)) (hk : PySem.W.keepIn X.K (.ref f) = true) (hb : KB X.K fd ps ks π 0) (hx : Takes X W)
    (hkw : PK X kws tk) (hall : (backToKw pos (keywordEach kws X.env)).all (·.1.isSome) = true := by rfl) (hks : (backToKw pos (keywordEach kws X.env)).filterMap (·.1) = ks := by rfl)
    (hdb : (x == ("__debug__" : Str)) = false := by decide) (hpl : ((backTo pos (starEach [] X.env)).any (·.1) || (backToKw pos (keywordEach kws X.env)).any (·.1.isNone)) = false := by rfl) :
    PE X (.Call (.Name x p) [] kws pos) (tCallKS sp π 0 ks.length W tNil tk) := by
  refine ⟨fun pins s σ H Q I h => ?_⟩
  refine wpAny_Call_Name_kw (ld_glob I hg hm ?_ hdb)
  refine PySem.W.callWith_KW0 (h₀ := X.base) I.ok.mod.kin hk hall (thn (hkw.run pos pins s σ H _ I h) fun ws s2 ⟨zs, H2, I2, rz, l1, l2, q2⟩ => ⟨I2.kIn, ?_⟩) hpl
  rw [hks]
  exact run_fnK (us := []) (vs := []) F hr hb hx I2 .nil rz l1 l2 q2
theorem callK_run {t tk : TA} {m mk : Nat} {π : List Nat} {gk : SS → R (List Ag)} (qa : ∀ Y A σ H δ F Q, Rel X.K S Y F A H σ δ → Run X.K X.mg S Y A σ W (fun F' H' δ' ags vs => AgRs X.K S Y A F' H' δ' ags vs) F (gs δ) Q → t σ H Q)
    (qk : ∀ Y A σ H δ F Q, Rel X.K S Y F A H σ δ → Run X.K X.mg S Y A σ W (fun F' H' δ' ags vs => AgRs X.K S Y A F' H' δ' ags vs) F (gk δ) Q → tk σ H Q) :
    ∀ Y A σ H δ F Q, Rel X.K S Y F A H σ δ → Run X.K X.mg S Y A σ W (fun F' H' δ' r v => RvR X.K S Y A F' H' δ' r v) F (gCallKN np m mk π G gs gk δ) Q → tCallKS (spD X.K X.mg S.T np G) π m mk W t tk σ H Q := fun Y A σ H δ F Q Rl h => by
  refine qa _ _ _ _ _ _ _ Rl (Run.bind h fun as δ1 vs H1 F1 _ R1 s1 rx h1 => ?_)
  by_cases hn : noF as = true
  · rw [if_pos hn] at h1
    refine qk _ _ _ _ _ _ _ R1 (Run.bind h1 fun bs δ2 us H2 F2 _ R2 s2 ry h2 => ?_)
    by_cases hl : as.length = m ∧ bs.length = mk
    · rw [if_pos hl] at h2
      exact ⟨by rw [rx.len]; exact hl.1, by rw [ry.len]; exact hl.2, callA_sp R2 (((rx.later s2 hn).append ry).pick π) h2⟩
    · rw [if_neg hl] at h2
      exact h2.elim
  · rw [if_neg hn] at h1
    exact h1.elim
theorem rv_callK {ks : List Str} {m mk : Nat} {π : List Nat} {gk : SS → R (List Ag)} (F : FnOk X.prog X.w X.K X.mg X.base (L2.CX X.prog X.w) k f fd ps (spD X.K X.mg S.T np G)) (hr : Room k X.A) (hm : X.mg x = some (.ref f)) (hk : PySem.W.keepIn X.K (.ref f) = true) (hb : KB X.K fd ps ks π m) (tk : Takes X W)
    (ha : AGV X S W (e :: es) gs) (hkw : AGK X S W kws gk) (hg : Gl X x := by rfl) (hall : (backToKw pos (keywordEach kws X.env)).all (·.1.isSome) = true := by rfl) (hks : (backToKw pos (keywordEach kws X.env)).filterMap (·.1) = ks := by rfl)
    (hdb : (x == ("__debug__" : Str)) = false := by decide) (he : starEach (e :: es) X.env = (false, eval e X.env) :: starEach es X.env := by rfl)
    (hpl : ((backTo pos (starEach (e :: es) X.env)).any (·.1) || (backToKw pos (keywordEach kws X.env)).any (·.1.isNone)) = false := by rfl) (hmk : ks.length = mk := by rfl) : RVJ X S W (.Call (.Name x p) (e :: es) kws pos) (gCallKN np m mk π G gs gk) := by
  obtain ⟨t, pa, q⟩ := ha
  obtain ⟨t2, pk, q2⟩ := hkw
  subst hmk
  exact ⟨_, pe_callKS F hr hg hm hk hb tk pa pk hall hks hdb he hpl, callK_run q q2⟩
theorem rv_callK0 {ks : List Str} {mk : Nat} {π : List Nat} {gk : SS → R (List Ag)} (F : FnOk X.prog X.w X.K X.mg X.base (L2.CX X.prog X.w) k f fd ps (spD X.K X.mg S.T np G)) (hr : Room k X.A) (hm : X.mg x = some (.ref f)) (hk : PySem.W.keepIn X.K (.ref f) = true) (hb : KB X.K fd ps ks π 0) (tk : Takes X W)
    (hkw : AGK X S W kws gk) (hg : Gl X x := by rfl) (hall : (backToKw pos (keywordEach kws X.env)).all (·.1.isSome) = true := by rfl) (hks : (backToKw pos (keywordEach kws X.env)).filterMap (·.1) = ks := by rfl)
    (hdb : (x == ("__debug__" : Str)) = false := by decide) (hpl : ((backTo pos (starEach [] X.env)).any (·.1) || (backToKw pos (keywordEach kws X.env)).any (·.1.isNone)) = false := by rfl) (hmk : ks.length = mk := by rfl) : RVJ X S W (.Call (.Name x p) [] kws pos) (gCallKN np 0 mk π G gAg0 gk) := by
  obtain ⟨t2, pk, q2⟩ := hkw
  subst hmk
  exact ⟨_, pe_callKS0 F hr hg hm hk hb tk pk hall hks hdb hpl, callK_run (fun Y A σ H δ F Q Rl h => h _ _ _ Rl (Same.refl _) trivial) q2⟩
def gOfR (g : SS → R RV) : SS → R D := fun δ => (g δ).bind fun r δ1 => .ok r.toD δ1
def gOfRO (g : SS → R RV) : SS → R OC := fun δ => (g δ).bind fun r δ1 => match r with
  | .o c => .ok c δ1
  | .d _ => .bad
theorem ev_rvj {g : SS → R RV} (h : RVJ X S W e g) : EV X S W e (gOfR g) := by
  obtain ⟨t, p, q⟩ := h
  refine ⟨t, p, fun Y A σ H δ F Q Rl h => q _ _ _ _ _ _ _ Rl (Run.bind h fun r δ1 v H1 F1 _ R1 s1 rx h1 => ?_)⟩
  cases r with
  | d x => exact h1 _ _ _ R1 (Same.refl _) rx
  | o c =>
    obtain ⟨p, o, e1, e2, r, fr⟩ := rx
    subst e1
    exact h1 _ _ _ (R1.freeze e2 fr r.ntb) (same_upd fr.f) ((r.mono (same_upd fr.f)).rp upd_same)
theorem eo_rvj {g : SS → R RV} (h : RVJ X S W e g) : EO X S W e (gOfRO g) := by
  obtain ⟨t, p, q⟩ := h
  refine ⟨t, p, fun Y A σ H δ F Q Rl h => q _ _ _ _ _ _ _ Rl (Run.bind h fun r δ1 v H1 F1 _ R1 s1 rx h1 => ?_)⟩
  cases r with
  | d x => exact h1.elim
  | o c => exact h1 _ _ _ R1 (Same.refl _) rx
end
end DL
set_option Elab.async false
set_option linter.all false
set_option maxRecDepth 100000
set_option maxHeartbeats 4000000
namespace DL
open PySem PySem.Spec PyProof.Rows L2
/-! ### an own error whose __init__ says super().__init__(x); sf.f = x -/
def spI (C : Addr) (f : Str) : Sp := fun vs H Q E => ∃ e v, vs = [.ref e, v] ∧ H e = some (exo e C none) ∧ ∀ dx, H dx = none → dx ≠ e → Q .non (upd (upd H dx (exd dx [(f, v)])) e (exo e C (some dx)))
structure InitC (P : Program) (K : Frg) (mg : Str → Option Value) (C fI : Addr) (f sf x : Str) (fd : FuncData) : Prop where
  T : OexC K C
  lk : ∃ (name qual : Str) (params : Arguments) (scope : Scope) (p0 p1 apos pn cpos pe' ps p' px pa : Pos) (dV kV doc pm : Value) (an : Option Addr) (ct : Value) (cda cc : Addr) (oc ccl cl tf' : Value) (od cdd cld : Option Addr) (osl ccs csl : Array (Option Value)) (vs : Array Value) (file : Str) (tf : Tok) (ar : Arg),
    fd = PySem.W.ksFn name qual params [.Expr (.Call (.Attribute (.Call (.Name "super" p0) [] [] p1) "__init__" apos) [.Name x pn] [] cpos) pe', .Assign [.Attribute (.Name sf ps) f p'] (.Name x px) pa] scope dV kV doc pm an (.ref cda) ct cc ∧
    K.lookup fI = some ⟨oc, od, .func fd, osl⟩ ∧ K.lookup cda = some ⟨ccl, cdd, .fields vs, ccs⟩ ∧ vs[2]? = some (.str file tf) ∧ ((P.main.file : Str) == file) = true ∧ PySem.W.codeIn K (.ref cda) qual = true ∧
    K.lookup cc = some ⟨cl, cld, .cell (some (.ref C)), csl⟩ ∧ (params.posonlyargs ++ params.args).head? = some ar ∧ ar.arg = sf ∧
    scope.kind = .function ∧ scope.isCoroutine = false ∧ scope.isGenerator = false ∧ (∀ y ∈ scope.names, y.2 ≠ .cell) ∧ scope.names.lookup ("super" : Str) = some .globalImplicit ∧ scope.names.lookup ("__class__" : Str) = some .free ∧
    scope.names.lookup sf = some .local ∧ scope.names.lookup x = some .local ∧
    ∀ L, interactive (PySem.W.ksEnv qual scope L fI (.ref cda) cc) = false ∧ swapsWith (.Call (.Attribute (.Call (.Name "super" p0) [] [] p1) "__init__" apos) [.Name x pn] [] cpos) none pe'.line (PySem.W.ksEnv qual scope L fI (.ref cda) cc) = pure false ∧
      swapsWith (.Name x px) (some (.Attribute (.Name sf ps) f p')) pa.line (PySem.W.ksEnv qual scope L fI (.ref cda) cc) = pure false ∧ ∃ pl : Sem Bool, eval (.Call (.Attribute (.Call (.Name "super" p0) [] [] p1) "__init__" apos) [.Name x pn] [] cpos) (PySem.W.ksEnv qual scope L fI (.ref cda) cc) = (do
        let ov ← attributeBase (.Call (.Name "super" p0) [] [] p1) "__init__" (PySem.W.ksEnv qual scope L fI (.ref cda) cc) (eval (.Call (.Name "super" p0) [] [] p1) (PySem.W.ksEnv qual scope L fI (.ref cda) cc))
        standAt apos.atName
        let (f, first) ← holding [ov] (getMethod ov "__init__" pl)
        callWith cpos f first (backTo cpos (starEach [.Name x pn] (PySem.W.ksEnv qual scope L fI (.ref cda) cc))) [])
  ne : sf ≠ x
  db1 : (sf == ("__debug__" : Str)) = false
  db2 : (x == ("__debug__" : Str)) = false
  top : (P.main.scope.names.lookup ("super" : Str)).isSome = false
  sup : mg "super" = none
  sub : PySem.W.mroIn K C (.ref C) = some true
  si : PySem.W.ks_superIn K C C "__init__" = some (some (.builtin "ValueError.__init__"))
  ve : PySem.W.subIn K (.ref C) (.type "ValueError") = some true
  opq : PySem.W.nsIn K cStatics "thirdparty.any" = some none
  no : PySem.W.findIn K (.ref C) f = some none
  bind : L2.Binds K fd [sf, x] []
theorem init_fn {P : Program} {w : World} {K : Frg} {mg : Str → Option Value} {base : Heap} {C fI : Addr} {f sf x : Str} {fd : FuncData} (Ic : InitC P K mg C fI f sf x fd) : FnOk P w K mg base (L2.CX P w) 1 fI fd [sf, x] (spI C f) := by
  refine ⟨fun vs H Q E h => ?_, fun A outer s H args us vs Q E hr e0 hb r hsp => ?_⟩
  · obtain ⟨e, v, rfl, _⟩ := h
    rfl
  obtain ⟨name, qual, params, scope, p0, p1, apos, pn, cpos, pe', ps, p', px, pa, dV, kV, doc, pm, an, ct, cda, cc, oc, ccl, cl, tf', od, cdd, cld, osl, ccs, csl, vs', file, tf, ar, rfl, lk, hcode, hvs, hfile, hcd, hcell, hp, har, hk, hco, hgen, hnc, hks, hkc, hka, hkx, hsyn⟩ := Ic.lk
  subst har
  obtain ⟨e, v, rfl, he, hq⟩ := hsp
  obtain ⟨ue, us, rfl, re, r⟩ : ∃ ue us', us = ue :: us' ∧ RelV (.ref e) ue ∧ Vals [v] us' := by
    cases r with
    | cons a b => exact ⟨_, _, rfl, a, b⟩
  obtain ⟨u, rfl, ru⟩ : ∃ u, us = [u] ∧ RelV v u := by
    cases r with
    | cons a b => cases b; exact ⟨_, rfl, a⟩
  obtain rfl : ue = Value.ref e := re
  have KX : K.In s.heap := e0.mod.kin.keeps fun b o e => (e0.bs b o e).1
  have lim : s.heap.NoLimit := e0.mod.nolimit.keeps fun b o e => (e0.bs b o e).1
  obtain ⟨nm, q, N, bs, bm, sn, sub, ab, col, dd, k0, k1, k2, k3, k5, hC, hbm⟩ := Ic.T.cls
  have hcl : PySem.W.clsIn K C = some { name := nm, bases := bs, mro := .ref C :: bm, ns := N, qualname := q, hasDict := true, slotNames := sn, subclasses := sub, abstract := ab, collection := col, hasDel := false } := by unfold PySem.W.clsIn; rw [hC] <;> rfl
  refine PySem.ks_codeAny_call_defAt hr.depth (KX _ _ lk) rfl lim (PySem.W.codeRec_of KX hcd) rfl hb hnc (fun y hy => ?_) (fun h₀ hns kp => ?_) hco hgen hk
  · rcases y with ⟨n, z⟩
    have := (List.of_mem_zip hy).1
    rcases List.mem_cons.mp this with rfl | this
    · exact hka
    · rcases List.mem_cons.mp this with rfl | this
      · exact hkx
      · cases this
  obtain ⟨t1, hoe⟩ := exo_at e0.hok he
  have X0 : K.In h₀ := KX.keeps kp
  have X0 : K.In h₀ := KX.keeps kp
  have hself : (fun y => List.lookup y ([ar.arg, x].zip [Value.ref e, u]).reverse) ar.arg = some (.ref e) := by
    show List.lookup ar.arg [(x, u), (ar.arg, Value.ref e)] = _
    have e1 : (ar.arg == x) = false := by simpa using Ic.ne
    simp only [List.lookup, e1, beq_self_eq_true]
  have hx : (fun y => List.lookup y ([ar.arg, x].zip [Value.ref e, u]).reverse) x = some u := by
    show List.lookup x [(x, u), (ar.arg, Value.ref e)] = _
    simp [List.lookup]
  have hbk : ∀ b o, base.get? b = some o → h₀.get? b = some o := fun b o z => kp b o (e0.bs b o z).1
  obtain ⟨mb, hb1, hb2⟩ := e0.mod.blt
  obtain ⟨hp0, g, d, tk, os⟩ := s
  obtain ⟨hint, hsw1, hsw2, pl, hev⟩ := hsyn hp0.objs.size
  refine PySem.ks_wpAt_execs_cons (PySem.ks_wpAt_Expr_any (PySem.ks_wpAt_MethodCall (pl := pl) ?_ hev) hint hsw1)
  refine PySem.ks_wpAt_super_base (env := PySem.W.ksEnv qual scope hp0.objs.size fI (.ref cda) cc) hks hkc rfl rfl (X0 _ _ lk) rfl hp rfl (X0 _ _ hcode) rfl hvs hfile Ic.top ?_
  refine PySem.W.ks_loadName_global hk hks (Calls.loadGlobal_builtin (env := PySem.W.ksEnv qual scope hp0.objs.size fI (.ref cda) cc) (e0.mod.glob.keeps hbk) Ic.sup (hb1.keeps hbk) (v := .type "super") ((hb2 "super" (by decide)).trans (by decide +kernel)) ⟨rfl, ?_⟩)
  refine wpAny_loadName_free hk hkc rfl ⟨_, X0 _ _ hcell, rfl⟩ ?_
  refine wpAny_loadName_local hk hka hns hself ?_
  refine PySem.ks_wpAny_isType_cls (X0 _ _ hC) rfl ⟨rfl, ?_⟩
  refine PySem.ks_wpAny_call_super (X0 _ _ hC) rfl (kp _ _ hoe) rfl (fun c => nofun) (PySem.W.looks_mroIn X0 Ic.sub) (fun h' hso k1 => ?_)
  have X1 : K.In h' := X0.keeps k1
  have ne : e ≠ C := fun z => by
    have y := kp _ _ hoe
    rw [z, X0 _ _ hC] at y
    cases y
  have Ie : PySem.W.InstAt h' e { cls := .ref C, dict := none, data := .fields #[.ref t1, .none, .none, .none, .bool false, .none] } C none := ⟨k1 _ _ (kp _ _ hoe), rfl, rfl, trivial⟩
  have hsi : PySem.W.alongIn K "__init__" ((({ name := nm, bases := bs, mro := .ref C :: bm, ns := N, qualname := q, hasDict := true, slotNames := sn, subclasses := sub, abstract := ab, collection := col, hasDel := false } : ClassData).mro.dropWhile (· != .ref C)).drop 1) = some (some (.builtin "ValueError.__init__")) := by
    have y := Ic.si
    unfold PySem.W.ks_superIn at y
    rw [hcl] at y
    exact y
  refine PySem.W.kxs_getMethod PySem.W.kxs_ValueError (x := e) (C := C) (D := C) hso (PySem.W.looks_opaque X1 Ic.opq) (fun A Q E s k q => wpAny_bind ((PySem.W.looks_clsIn X1 hcl) A _ E s k (wpAny_pure q))) rfl X1 hsi (Ie.type.andThen (PySem.W.looks_subIn X1 Ic.ve)) ne (by decide) ?_
  have k2 : ∀ b o, h'.get? b = some o → (h'.push (PySem.W.kxs_mw "ValueError.__init__" e)).get? b = some o := fun b o z => Heap.get?_push_of_some _ z
  refine PySem.W.kxs_callWith (i := "ValueError.__init__") (x := e) rfl (Calls.evalArgs_plain (Calls.spliced_cons (wpAny_Name (wpAny_loadName_local hk hkx (m := fun y => List.lookup y ([ar.arg, x].zip [Value.ref e, u]).reverse) ?_ hx (Calls.spliced_nil ⟨?_, ?_⟩)) Ic.db2)))
  · exact (hns.keeps k1).keeps k2
  · exact Heap.get?_push_at rfl rfl
  have FB := PySem.F.excBase_ValueError
  have hmw : (h'.push (PySem.W.kxs_mw "ValueError.__init__" e)).get? h'.objs.size = some (PySem.W.kxs_mw "ValueError.__init__" e) := Heap.get?_push_at rfl rfl
  have he2 := k2 _ _ (k1 _ _ (kp _ _ hoe))
  refine wpAny_call (codeAny_of_tree (show wpAny _ (A.deeper (PySem.W.ksEnv qual scope hp0.objs.size fI (.ref cda) cc)).in1 (callAny (.ref h'.objs.size) ⟨[u], []⟩) _ _ _ from ?_))
  simp only [callAny]
  refine wpAny_bind (wpAny_load hmw ?_)
  simp only [PySem.W.kxs_mw, show ((Value.type "method-wrapper" == Value.type "method" || Value.type "method-wrapper" == Value.type "builtin_function_or_method") || Value.type "method-wrapper" == Value.type "method-wrapper") = true by decide, if_true]
  refine PySem.W.KFB.if_so (by decide) (wpAny_bind (PySem.W.check_bound_init FB.toExcCallFacts (k2 _ _ (k1 _ _ (X0 _ _ hC))) he2 rfl (wpAny_bind (wpAny_pure (wpAny_pure ⟨plainId_quiet FB.init.plain _, codeAny_builtin FB.initEntry ?_⟩)))))
  refine PySem.W.exc_init_tree (cls := .ref C) (t0 := t1) (dv := none) (c2 := .none) (c3 := .none) (b4 := .bool false) he2 (by rw [sizeLine_eq]; show 1 ≤ 16777216; decide) fun h3 k3 he3 ht3 => ?_
  have kk : ∀ b o, b ≠ e → hp0.get? b = some o → h3.get? b = some o := fun b o nb z => k3 _ _ nb (k2 _ _ (k1 _ _ (kp _ _ z)))
  obtain ⟨oL, es, ep, hL, rL⟩ := hns
  have hLe : hp0.objs.size ≠ e := fun z => absurd (Heap.lt_size hoe) (by rw [← z]; exact Nat.lt_irrefl _)
  have hL3 : h3.get? hp0.objs.size = some oL := k3 _ _ hLe (k2 _ _ (k1 _ _ hL))
  have X3 : K.In h3 := fun b o z => kk b o (fun y => by
    have y2 := (e0.bs _ _ (e0.mod.kin _ _ z)).2
    rw [y, he] at y2
    cases y2) (KX _ _ z)
  have hns3 : h3.Ns hp0.objs.size (fun y => List.lookup y ([ar.arg, x].zip [Value.ref e, u]).reverse) := ⟨oL, es, ep, hL3, rL⟩
  show PySem.wpAt _ _ _ _ _ _ _
  refine PySem.ks_wpAt_execs_cons (PySem.ks_wpAt_Assign_Attr (wpAt_of_wpAny (wpAny_Name (wpAny_loadName_local hk hkx hns3 hx (wpAny_Name (wpAny_loadName_local hk hka hns3 hself ?_) Ic.db1)) Ic.db2)) hsw2)
  refine PySem.W.set_plain X3 (ox := { cls := .ref C, dict := none, data := .fields #[.ref (h'.push (PySem.W.kxs_mw "ValueError.__init__" e)).objs.size, .none, .none, .none, .bool false, .none] }) (od := none) ⟨he3, rfl, rfl, trivial⟩ Ic.T.sa ?_
  refine PySem.HandSPX.exc_osa X3 he3 hcl (show PySem.HandSPX.refsVE (.ref C :: bm) = true from hbm) rfl Ic.no (fun h4 tk' dx k4 dn dne hx4 hn4 => ?_)
  have hdx : hp0.objs.size ≤ dx := Nat.le_of_lt (Nat.lt_of_lt_of_le (Heap.lt_size hL3) dn)
  have hnd : H dx = none := e0.hok.fresh hdx
  have nd : ∀ {b : Addr} {o : Obj}, hp0.get? b = some o → b ≠ dx := fun {b o} q => Nat.ne_of_lt (Nat.lt_of_lt_of_le (Heap.lt_size q) hdx)
  have na : ∀ {b : Addr}, H b = none → b ≠ e := fun {b} n z => by
    rw [z, he] at n
    cases n
  have k5 : ∀ b o, b ≠ e → hp0.get? b = some o → h4.get? b = some o := fun b o nb z => k4 b o nb (kk b o nb z)
  have un : Un (frs outer) [] H (upd (upd H dx (exd dx [(f, v)])) e (exo e C (some dx))) hp0 h4 := {
    keep := fun b o q n _ _ => k5 b o (na n) q
    slot := fun b o q n _ _ => ⟨o.slots, k5 b o (na n) q⟩
    free := fun b o q n _ => (upd_ne (na n)).trans ((upd_ne (nd q)).trans n)
    there := fun b o q _ => by
      by_cases hb : b = e
      · exact ⟨_, hb ▸ hx4⟩
      · exact ⟨o, k5 b o hb q⟩
    tups := fun b xs q => (upd_ne (at_ne he q exo_tup)).trans ((upd_ne (ne_of_none q hnd)).trans q)
    frzs := fun b o v q => (upd_ne (at_ne he q exo_frz)).trans ((upd_ne (ne_of_none q hnd)).trans q)
    tbls := fun b ps q => ⟨#[], (upd_ne (at_ne he q exo_tbl)).trans ((upd_ne (ne_of_none q hnd)).trans (by rw [q]; simp))⟩ }
  have hok : HOk P w (upd (upd H dx (exd dx [(f, v)])) e (exo e C (some dx))) h4 := fun b o q => by
    by_cases hb : b = e
    · subst hb
      rw [upd_same] at q
      cases q
      exact exo_ok hx4
    · rw [upd_ne hb] at q
      by_cases hd : b = dx
      · subst hd
        rw [upd_same] at q
        cases q
        exact exd_ok hn4 (relO_put (fs := []) ru fun g => True.intro)
      · rw [upd_ne hd] at q
        refine (e0.hok b o q).stay (fun c v hc z => k5 c v (fun y => ?_) z) (fun c hc => (upd_ne (at_ne he hc exo_own)).trans ((upd_ne (ne_of_none hc hnd)).trans hc)) fun c xs hc => (upd_ne (at_ne he hc exo_tup)).trans ((upd_ne (ne_of_none hc hnd)).trans hc)
        rcases hc with hc | hc
        · exact hb (hc ▸ y)
        · exact at_ne he hc exo_own y
  show PySem.wpAt _ _ _ (execs [] _) _ _ _
  refine wpAt_of_wpAny (wpAny_execs_nil ?_)
  exact ⟨.non, _, rfl, e0.bare, un, hok, rfl, hq dx hnd dne⟩
end DL
set_option Elab.async false
set_option linter.all false
set_option maxRecDepth 100000
set_option maxHeartbeats 4000000
namespace DL
open PySem PySem.Spec PyProof.Rows L2
/-! ### raise C(e), and what a clause tells of it -/
structure ErrC (P : Program) (K : Frg) (mg : Str → Option Value) (c : Str) (C fI : Addr) (f sf x : Str) (fd : FuncData) : Prop extends InitC P K mg C fI f sf x fd where
  gC : mg c = some (.ref C)
  iC : PySem.W.findIn K (.ref C) "__init__" = some (some (.ref fI))
  tI : PySem.W.typeIn K (.ref fI) = some (.type "function")
  xf : XfC K C
  te : PySem.W.exmOne K (.ref C) (.ref C) = some true
def gRaise (c f : Str) (g : SS → R D) : SS → R Fl := fun δ => (g δ).bind fun x δ1 => .ex c f x δ1
section
variable {X : Cx} {S : Sx} {W : WX} {e : Expr} {p pos pos2 : Pos} {ga : SS → R D} {c f sf x : Str} {C fI : Addr} {fd : FuncData}
theorem noPass : Passes (L2.CX X.prog X.w) X (fun _ _ _ => False) := fun _ _ _ _ _ _ _ h => by
  obtain ⟨_, _, _, _, _, _, _, _, _, _, _, _, z⟩ := h
  exact z.elim
theorem st_raise (Er : ErrC X.prog X.K X.mg c C fI f sf x fd) (hr : Room 2 X.A) (tk : Takes X W) (h : EV X S W e ga) (hc : X.calm = true := by rfl) (hg : Gl X c := by rfl) (hdb : (c == ("__debug__" : Str)) = false := by decide)
    (he : starEach [e] X.env = (false, eval e X.env) :: starEach [] X.env := by rfl) (hpl : (backTo pos (starEach [] X.env)).any (·.1) = false := by rfl) : ST X S W (.Raise (some (.Call (.Name c p) [e] [] pos)) none pos2) (gRaise c f ga) := by
  obtain ⟨t, pe, q⟩ := h
  refine ⟨_, ps_raise hc tk (pmk_oex (k := 1) Er.T Er.iC Er.tI (init_fn (w := X.w) (base := X.base) Er.toInitC) hr Er.bind .nil noPass hg Er.gC (pa_cons pe pa_nil he) hdb he hpl), fun Y A σ H δ F E hl Rl h => ?_⟩
  refine q _ _ _ _ _ _ _ Rl (RunS.bind h fun y δ1 v H1 F1 _ R1 s1 rx h1 => ?_)
  refine ⟨by show 1 ≤ 1000; decide, fun a ha => ⟨a, v, rfl, upd_same, fun dx hdx hne => ⟨rfl, dx, [(f, v)], upd_same, ?_, ?_, ?_⟩⟩⟩
  · rw [upd_ne hne, upd_same]
  · rw [upd_ne hne] at hdx
    exact hdx
  · have hd : H1 dx = none := by
      rw [upd_ne hne] at hdx
      exact hdx
    have eh : upd (del (upd (upd (upd H1 a (exo a C none)) dx (exd dx [(f, v)])) a (exo a C (some dx))) a) dx (.xd [(f, v)]) = upd H1 dx (.xd [(f, v)]) := by
      funext b
      by_cases h1 : b = dx
      · rw [h1, upd_same, upd_same]
      · rw [upd_ne h1, upd_ne h1]
        by_cases h2 : b = a
        · rw [h2, del_same, ha]
        · rw [del_ne h2, upd_ne h2, upd_ne h1, upd_ne h2]
    rw [eh]
    exact h1 _ _ _ _ _ _ (R1.laid hd) (Same.refl _) ⟨C, dx, v, Er.gC, rfl, rfl, upd_same, rx⟩
end
/-! ### x(lambda: e), x the def that tells the field of the error that e lets out, or '' -/
def TTref (C : Addr) (f : Str) : (XK → Hp → VK → Prop) → Hp → VK → Prop := fun tl H Q =>
  tl (fun cls d H' => cls = .ref C ∧ ∃ (dd : Addr) (v : V), d = some dd ∧ H' dd = some (.xd [(f, v)]) ∧ Q v H') H (fun _ H1 => Q (.str "") H1)
section
variable {X : Cx}
theorem pe_slot {Z : Cx} {i : Nat} {x : Str} {pos : Pos} {N : List Str} (h : PE Z (.Name x pos) (tVar i)) (hN : Z.N = N) : PE Z (.Name x pos) (fun σ H Q => σ.length = N.length → tVar i σ H Q) :=
  ⟨fun pins s σ H Q I k => h.run pins s σ H Q I (k (by rw [← hN]; exact I.len))⟩
theorem ref_gives {Ng : List Str} {x a en c f q : Str} {sg : Scope} {g C : Addr} {cdg : Value} {j : Nat} {p1 p2 p3 p4 p5 p6 p7 p8 p9 p10 p11 : Pos} (xf : XfC X.K C) (hno : PySem.W.findIn X.K (.ref C) f = some none) (te : PySem.W.exmOne X.K (.ref C) (.ref C) = some true)
    (hgc : sg.names.lookup c = some .globalImplicit) (hmc : X.mg c = some (.ref C)) (hdc : (c == ("__debug__" : Str)) = false) (h0 : ∀ f : Addr, (L2.start Ng [V.ref f])[0]? = some (some (V.ref f))) (hN : Ng.Nodup) (h1 : Ng[1]? = some en) (hln : sg.names.lookup en = some .local)
    (hd : (en == ("__debug__" : Str)) = false) (hcd : (en == ("__classdict__" : Str)) = false)
    (hab : ∀ L, attributeBase (.Name en p5) f (envOfC x sg L g cdg) (eval (.Name en p5) (envOfC x sg L g cdg)) = eval (.Name en p5) (envOfC x sg L g cdg)) (hsw : ∀ L, swapsWith (.Call (.Name a p1) [] [] p2) none p3.line (envOfC x sg L g cdg) = pure false) :
    LamX.GivesTo X Ng x sg g cdg [.Try [.Expr (.Call (.Name a p1) [] [] p2) p3] [.ExceptHandler (some (.Name c p4)) (some en) [.Return (some (.Attribute (.Name en p5) f p6)) p7] p8] [] [] p9, .Return (some (.Constant (.str "") j p10)) p11] a q (TTref C f) := by
  intro ff c' s H Q tl act hc h
  have hgl : Gl (cxOf C8.CX0 X.prog X.w X.K X.mg X.base Ng x sg g cdg X.A X.stack s H C8.E0).nox c := hgc
  refine ⟨_, pss_cons (ps_try_as (i := 1) (X := (cxOf C8.CX0 X.prog X.w X.K X.mg X.base Ng x sg g cdg X.A X.stack s H C8.E0).nox) (c := .ref C)
      (tb := fun W D σ H => ∃ Ech : XK, (∀ cls d σ' H', Ech cls d H' → W cls d σ' H') ∧ σ[0]? = some (some (.ref ff)) ∧ H c' = some (LamX.CodeO c' q) ∧ tl Ech H fun _ H1 => D.nx σ H1)
      rfl rfl hN h1 hln ⟨hgl, hdc, .inl hmc⟩ LamX.takes0 (fun W pn xe tk _ => ?_) (fun a oe cls d pn hz hf => pss_one (ps_ret (pe_xf (X := (cxOf C8.CX0 X.prog X.w X.K X.mg X.base Ng x sg g cdg X.A X.stack s H C8.E0).nox) xf hno hz hf (pe_slot (N := Ng) (pe_var (i := 1) h1 (.inl hln) hd hcd) rfl) (hab _))))) (pss_one (ps_ret pe_str)), ?_⟩
  · refine ⟨fun pins s' σ H' D I h' => ?_⟩
    obtain ⟨Ech, hW, h1, h2, h3⟩ := h'
    have hq := pss_one (ps_expr (pos := p3) (act W pn xe Ech p1 p2 tk hW) (hsw _))
    exact hq.run pins s' σ H' D I ⟨h1, h2, h3⟩
  · refine ⟨_, fun cls d σ' H' hh => ?_, h0 ff, hc, h⟩
    obtain ⟨rfl, dd, v, e1, e2, e3⟩ := hh
    refine ⟨true, te, fun _ a ha => ?_, fun z => nomatch z⟩
    refine fun hl => ⟨.ref a, ?_, rfl, rfl, dd, _, v, e1, e2, by simp [List.lookup], e3⟩
    rw [List.getElem?_set_self]
    have : 1 < Ng.length := (List.getElem?_eq_some_iff.mp h1).1
    rw [List.length_set] at hl
    omega
def gRef (c f : Str) (g : SS → R D) : SS → R D := fun δ => match g δ with
  | .bad => .bad
  | .ok _ δ1 => .ok (.str "") δ1
  | .ex c' f' x δ1 => if c' = c ∧ f' = f then .ok x δ1 else .bad
theorem ev_ref {S : Sx} {W : WX} {cE fE : Str} {C : Addr} {x a : Str} {g c P : Addr} {k : Nat} {pg : Arguments} {bg : List Stmt} {sg : Scope} {dV kV doc pm cdv ct oc : Value} {an od : Option Addr} {osl : Array (Option Value)} {Ng : List Str}
    {params : Arguments} {body : Expr} {scope : Scope} {gb : SS → R D} {p lpos pos : Pos} (hm : X.mg x = some (.ref g)) (hk : PySem.W.keepIn X.K (.ref g) = true) (hmE : X.mg cE = some (.ref C))
    (lk : X.K.lookup g = some ⟨oc, od, .func (PySem.W.fnOf x x pg bg sg dV kV doc pm an cdv ct), osl⟩) (hcg : PySem.W.codeIn X.K cdv x = true) (hb : L2.Binds X.K (PySem.W.fnOf x x pg bg sg dV kV doc pm an cdv ct) [a] []) (Sg : FnScope Ng [a] sg) (hNg : Ng[0]? = some a) (hva : Vis sg a)
    (hG : LamX.GivesTo X Ng x sg g cdv bg a (X.env.qual ++ "<lambda>") (TTref C fE))
    (TB : LamX.TabB X.base X.mg c P) (hcode : X.env.code = .ref c) (hmT : (P, X.env.qual ++ "<lambda>") ∈ S.T) (hu : ∀ p ∈ S.T, p.1 = P → p.2 = X.env.qual ++ "<lambda>") (hr : Room (k + 2) X.A) (L : LamX.LamS X.env.scope scope) (hdef : defaultsOf params X.env = ([], []))
    (hbind : ∀ (q : Str) (cl : List (Str × Addr)) (pm cv ctv : Value), bindArgs (PySem.W.kla_fn "<lambda>" q params body scope cl pm cv ctv) ⟨[], []⟩ = pure [])
    (hbody : ∀ (A : Around) (outer : List Env) (s : Shared) (H : Hp) (E : XK) (f c' : Addr), Room k (A.deeper (LamX.lamEnv X scope s.heap.objs.size f c')) → EV (LamX.lamCx X A outer s H E scope f c') S (fun cls d _ H => E cls d H) body gb)
    (hg : Gl X x := by rfl) (hdb : (x == ("__debug__" : Str)) = false := by decide) (hd : (a == ("__debug__" : Str)) = false := by decide) (hcd : (a == ("__classdict__" : Str)) = false := by decide) :
    EV X S W (.Call (.Name x p) [.Lambda params body scope lpos] [] pos) (gRef cE fE gb) := by
  refine ⟨_, LamX.pe_lamcall (t := fun E => tEV X.K X.mg S (fun cls d _ H => E cls d H) gb) hg hm hk lk hcg hb Sg hNg hva hG TB hcode hmT hu hr L hdef hbind (fun A outer s H E f c' hr2 => ev_pe (hbody A outer s H E f c' hr2)) hdb hd hcd, fun Y A σ H δ F Q Rl h => ⟨Rl.tabs, fun H1 eN T1 => ?_⟩⟩
  refine ⟨Y, A, δ, F, Rl.extN eN T1, ?_⟩
  unfold gRef at h
  cases eg : gb δ with
  | bad =>
    rw [eg] at h
    exact h.elim
  | ok y δ1 =>
    rw [eg] at h
    exact fun v H2 F2 R2 s2 _ => h _ _ _ R2 s2 (.str "")
  | ex c' f' y δ1 =>
    rw [eg] at h
    by_cases hcf : c' = cE ∧ f' = fE
    · have h2 : Run X.K X.mg S Y A σ W (ρD X.K) F (if c' = cE ∧ f' = fE then .ok y δ1 else .bad) Q := h
      rw [if_pos hcf] at h2
      obtain ⟨rfl, rfl⟩ := hcf
      intro cls dd H2 F2 R2 s2 ⟨C2, dx, v, e1, e2, e3, e4, e5⟩
      rw [hmE] at e1
      cases e1
      exact ⟨e2, dx, v, e3, e4, h2 _ _ _ R2 s2 e5⟩
    · have h2 : Run X.K X.mg S Y A σ W (ρD X.K) F (if c' = cE ∧ f' = fE then .ok y δ1 else .bad) Q := h
      rw [if_neg hcf] at h2
      exact h2.elim
end
end DL
set_option Elab.async false
set_option linter.all false
set_option maxRecDepth 100000
set_option maxHeartbeats 4000000
namespace DL
open PySem PySem.Spec PyProof.Rows L2
/-! ### defs of the module by name -/
abbrev FnP (K : Frg) (x : Str) (st : Stmt) (f : Addr) (fd : FuncData) : Prop := FunD K x x (defArgs st) (defBody st) (defScope st) [] [] f fd
structure DOk (P : Program) (w : World) (K : Frg) (mg : Str → Option Value) (base : Heap) (T : List (Addr × Str)) (k : Nat) (x : Str) (ps : List Str) (st : Stmt) (G : List SV → RF) : Prop where
  ex : ∃ f fd, mg x = some (.ref f) ∧ FnP K x st f fd ∧ L2.Binds K fd ps [] ∧ FnOk P w K mg base (L2.CX P w) k f fd ps (spD K mg T ps.length G)
section
variable {P : Program} {w : World} {K : Frg} {mg : Str → Option Value} {base : Heap}
theorem fn_D2 {x qual : Str} {params : Arguments} {body : List Stmt} {scope : Scope} {f : Addr} {fd : FuncData} {N ps : List Str} {k m : Nat} {T : List (Addr × Str)} {gb : SS → R Fl} (Fn : FunD K x qual params body scope [] [] f fd) (Sc : FnScope N ps scope) (hm : N.length = ps.length + m)
    (hbody : ∀ (cdv : Value), fd.code = cdv → PySem.W.codeIn K cdv qual = true → ∀ (A : Around) (outer : List Env) (s : Shared) (H : Hp) (E : XK), Room k (A.deeper (envOfC qual scope s.heap.objs.size f cdv)) →
      STs (cxOf (L2.CX P w) P w K mg base N qual scope f cdv A outer s H E) ⟨T, ps.length⟩ (fun cls d _ H => E cls d H) body gb) :
    FnOk P w K mg base (L2.CX P w) (k + 1) f fd ps (spD K mg T ps.length (gDef ps.length m gb)) := by
  obtain ⟨oc, od, dV, kV, doc, pm, an, cdv, ct, osl, rfl, lk, hcd, _, _⟩ := Fn.ex
  refine fn_of lk hcd Sc (fun vs H Q E h => h.choose_spec.choose_spec.choose_spec.1) fun A outer s H vs Q E hr hsp => ?_
  obtain ⟨t, p, q⟩ := hbody cdv rfl hcd A outer s H E hr
  refine ⟨t, p, ?_⟩
  obtain ⟨F, A0, svs, h1, h2, R0, h3⟩ := hsp
  have R1 := R0.pad m
  have e : L2.start N vs = vs.map some ++ List.replicate m none := by
    unfold L2.start
    rw [h1, hm, Nat.add_sub_cancel_left]
  rw [e]
  refine q _ A0 _ _ _ F _ ?_ R1 ?_
  · show _ = N.length
    rw [hm]
    simp [h1]
  · unfold gDef at h3
    rw [if_pos h2] at h3
    cases eg : gb (svs.map some ++ List.replicate m none) with
    | bad =>
      rw [eg] at h3
      exact h3
    | ex c f x δ =>
      rw [eg] at h3
      exact fun cls dd σ' H' F' A' R' s' ee => h3 cls dd F' A' H' σ' δ R' rfl s' ee
    | ok fl δ =>
      rw [eg] at h3
      cases fl with
      | nx => exact fun σ' H' F' A' R' s' => h3 _ F' A' H' σ' δ R' rfl s' .non
      | bk => exact h3.elim
      | ct => exact h3.elim
      | rt r => exact fun v σ' H' F' A' R' s' rv => h3 v F' A' H' σ' δ R' rfl s' rv
theorem mk_D {x : Str} {st : Stmt} {fd : FuncData} {N ps : List Str} {k m : Nat} {T : List (Addr × Str)} {gb : SS → R Fl} (hg : mg x = some (.ref (He.fAd K (x, none)))) (Fn : FnP K x st (He.fAd K (x, none)) fd) (Sc : FnScope N ps (defScope st)) (hm : N.length = ps.length + m)
    (hb : ∀ (kV doc pm : Value) (an : Option Addr) (cdv ct : Value) (us : List Value), us.length = ps.length → bindArgs (PySem.W.fnOf x x (defArgs st) (defBody st) (defScope st) .none kV doc pm an cdv ct) ⟨us, []⟩ = pure (ps.zip us))
    (hbody : ∀ (cdv : Value), cdv = .ref (He.codeOf K (x, none)) → ∀ (A : Around) (outer : List Env) (s : Shared) (H : Hp) (E : XK), Room k (A.deeper (envOfC x (defScope st) s.heap.objs.size (He.fAd K (x, none)) cdv)) →
      STs (cxOf (L2.CX P w) P w K mg base N x (defScope st) (He.fAd K (x, none)) cdv A outer s H E) ⟨T, ps.length⟩ (fun cls d _ H => E cls d H) (defBody st) gb) : DOk P w K mg base T (k + 1) x ps st (gDef ps.length m gb) := by
  refine ⟨_, fd, hg, Fn, FunD.bindsN Fn hb, fn_D2 Fn Sc hm fun cdv hc hcd A outer s H E hr => hbody cdv ?_ A outer s H E hr⟩
  obtain ⟨c, e⟩ := He.codeIn_ref hcd
  obtain ⟨oc, od, dV, kV, doc, pm, an, cdv', ct, osl, rfl, lk, _⟩ := Fn.ex
  rw [e, He.codeOf_eq lk (hc.trans e)]
end
section
variable {X : Cx} {S : Sx} {W : WX} {e : Expr} {es : List Expr} {kws : List Keyword} {pos p : Pos} {gs : SS → R (List Ag)} {k : Nat} {ps : List Str} {x : Str} {st : Stmt} {G : List SV → RF}
theorem rv_callD {np : Nat} (D : DOk X.prog X.w X.K X.mg X.base S.T k x ps st G) (hr : Room k X.A) (tk : Takes X W)
    (ha : AGV X S W (e :: es) gs) (hnp : ps.length = np := by rfl) (hg : Gl X x := by rfl) (hdb : (x == ("__debug__" : Str)) = false := by decide) (he : starEach (e :: es) X.env = (false, eval e X.env) :: starEach es X.env := by rfl) (hpl : (backTo pos (starEach es X.env)).any (·.1) = false := by rfl) :
    RVJ X S W (.Call (.Name x p) (e :: es) [] pos) (gCallR np G gs) := by
  subst hnp
  obtain ⟨f, fd, h1, h2, h3, h4⟩ := D.ex
  exact rv_call h4 hr h1 h2.kp h3 tk ha hg hdb he hpl
theorem kb_of {f : Addr} {fd : FuncData} {ks : List Str} {m : Nat} {π : List Nat} (F : FnP X.K x st f fd) (h : ∀ (kV doc pm : Value) (an : Option Addr) (cdv ct : Value) (us ws : List Value), us.length = m → ws.length = ks.length →
    bindArgs (PySem.W.fnOf x x (defArgs st) (defBody st) (defScope st) .none kV doc pm an cdv ct) ⟨us, ks.zip ws⟩ = pure (ps.zip (pick π (us ++ ws)))) : KB X.K fd ps ks π m := by
  obtain ⟨oc, od, dV, kV, doc, pm, an, cdv, ct, osl, rfl, lk, hcd, hD, hK⟩ := F.ex
  rcases hD with ⟨_, rfl⟩ | ⟨e, _⟩
  · exact fun s us ws _ h1 h2 => .of_eq (h kV doc pm an cdv ct us ws h1 h2)
  · exact absurd rfl e
theorem rv_callKD {np mk : Nat} {gk : SS → R (List Ag)} (ks : List Str) (m : Nat) (π : List Nat) (D : DOk X.prog X.w X.K X.mg X.base S.T k x ps st G) (hr : Room k X.A) (tk : Takes X W)
    (hb : ∀ (kV doc pm : Value) (an : Option Addr) (cdv ct : Value) (us ws : List Value), us.length = m → ws.length = ks.length →
      bindArgs (PySem.W.fnOf x x (defArgs st) (defBody st) (defScope st) .none kV doc pm an cdv ct) ⟨us, ks.zip ws⟩ = pure (ps.zip (pick π (us ++ ws))))
    (ha : AGV X S W (e :: es) gs) (hkw : AGK X S W kws gk) (hnp : ps.length = np := by rfl) (hmk : ks.length = mk := by rfl) (hg : Gl X x := by rfl) (hall : (backToKw pos (keywordEach kws X.env)).all (·.1.isSome) = true := by rfl) (hks : (backToKw pos (keywordEach kws X.env)).filterMap (·.1) = ks := by rfl)
    (hdb : (x == ("__debug__" : Str)) = false := by decide) (he : starEach (e :: es) X.env = (false, eval e X.env) :: starEach es X.env := by rfl)
    (hpl : ((backTo pos (starEach (e :: es) X.env)).any (·.1) || (backToKw pos (keywordEach kws X.env)).any (·.1.isNone)) = false := by rfl) : RVJ X S W (.Call (.Name x p) (e :: es) kws pos) (gCallKN np m mk π G gs gk) := by
  subst hnp hmk
  obtain ⟨f, fd, h1, h2, h3, h4⟩ := D.ex
  exact rv_callK h4 hr h1 h2.kp (kb_of h2 hb) tk ha hkw hg hall hks hdb he hpl
theorem rv_callKD0 {np mk : Nat} {gk : SS → R (List Ag)} (ks : List Str) (π : List Nat) (D : DOk X.prog X.w X.K X.mg X.base S.T k x ps st G) (hr : Room k X.A) (tk : Takes X W)
    (hb : ∀ (kV doc pm : Value) (an : Option Addr) (cdv ct : Value) (us ws : List Value), us.length = 0 → ws.length = ks.length →
      bindArgs (PySem.W.fnOf x x (defArgs st) (defBody st) (defScope st) .none kV doc pm an cdv ct) ⟨us, ks.zip ws⟩ = pure (ps.zip (pick π (us ++ ws))))
    (hkw : AGK X S W kws gk) (hnp : ps.length = np := by rfl) (hmk : ks.length = mk := by rfl) (hg : Gl X x := by rfl) (hall : (backToKw pos (keywordEach kws X.env)).all (·.1.isSome) = true := by rfl) (hks : (backToKw pos (keywordEach kws X.env)).filterMap (·.1) = ks := by rfl)
    (hdb : (x == ("__debug__" : Str)) = false := by decide)
    (hpl : ((backTo pos (starEach [] X.env)).any (·.1) || (backToKw pos (keywordEach kws X.env)).any (·.1.isNone)) = false := by rfl) : RVJ X S W (.Call (.Name x p) [] kws pos) (gCallKN np 0 mk π G gAg0 gk) := by
  subst hnp hmk
  obtain ⟨f, fd, h1, h2, h3, h4⟩ := D.ex
  exact rv_callK0 h4 hr h1 h2.kp (kb_of h2 hb) tk hkw hg hall hks hdb hpl
theorem ev_globI' {i : Int} (hm : ∃ t, X.mg x = some (.int i t)) (hg : Gl X x := by rfl) (hd : (x == ("__debug__" : Str)) = false := by decide) : EV X S W (.Name x pos) (gC (.int i)) := by
  obtain ⟨t, h⟩ := hm
  exact ev_globI h hg hd
theorem ev_globS' {i : Str} (hm : ∃ t, X.mg x = some (.str i t)) (hg : Gl X x := by rfl) (hd : (x == ("__debug__" : Str)) = false := by decide) : EV X S W (.Name x pos) (gC (.str i)) := by
  obtain ⟨t, h⟩ := hm
  exact ev_globS h hg hd
/-- x(lambda: e), by the facts of x -/
theorem ev_refD {cE fE sf xE : Str} {C fI : Addr} {fdE : FuncData} {a en : Str} {sr : Stmt} {Ng : List Str} {c Pt : Addr} {params : Arguments} {body : Expr} {scope : Scope} {gb : SS → R D} {lpos : Pos} {j : Nat} {p1 p2 p3 p4 p5 p6 p7 p8 p9 p10 p11 : Pos}
    (Er : ErrC X.prog X.K X.mg cE C fI fE sf xE fdE) (hm : X.mg x = some (.ref (He.fAd X.K (x, none)))) (Fn : ∃ fd, FnP X.K x sr (He.fAd X.K (x, none)) fd)
    (hbd : ∀ (kV doc pm : Value) (an : Option Addr) (cdv ct : Value) (us : List Value), us.length = [a].length → bindArgs (PySem.W.fnOf x x (defArgs sr) (defBody sr) (defScope sr) .none kV doc pm an cdv ct) ⟨us, []⟩ = pure ([a].zip us)) (Sg : FnScope Ng [a] (defScope sr)) (hNg : Ng[0]? = some a) (hva : Vis (defScope sr) a)
    (hsr : defBody sr = [.Try [.Expr (.Call (.Name a p1) [] [] p2) p3] [.ExceptHandler (some (.Name cE p4)) (some en) [.Return (some (.Attribute (.Name en p5) fE p6)) p7] p8] [] [] p9, .Return (some (.Constant (.str "") j p10)) p11])
    (hgc : (defScope sr).names.lookup cE = some .globalImplicit) (h1 : Ng[1]? = some en) (hln : (defScope sr).names.lookup en = some .local) (hN2 : Ng.length = 2)
    (hab : ∀ g cdg L, attributeBase (.Name en p5) fE (envOfC x (defScope sr) L g cdg) (eval (.Name en p5) (envOfC x (defScope sr) L g cdg)) = eval (.Name en p5) (envOfC x (defScope sr) L g cdg)) (hsw : ∀ g cdg L, swapsWith (.Call (.Name a p1) [] [] p2) none p3.line (envOfC x (defScope sr) L g cdg) = pure false)
    (TB : LamX.TabB X.base X.mg c Pt) (hcode : X.env.code = .ref c) (hmT : (Pt, X.env.qual ++ "<lambda>") ∈ S.T) (hu : ∀ p ∈ S.T, p.1 = Pt → p.2 = X.env.qual ++ "<lambda>") (hr : Room (k + 2) X.A) (L : LamX.LamS X.env.scope scope) (hdef : defaultsOf params X.env = ([], []))
    (hbind : ∀ (q : Str) (cl : List (Str × Addr)) (pm cv ctv : Value), bindArgs (PySem.W.kla_fn "<lambda>" q params body scope cl pm cv ctv) ⟨[], []⟩ = pure [])
    (hbody : ∀ (A : Around) (outer : List Env) (s : Shared) (H : Hp) (E : XK) (f c' : Addr), Room k (A.deeper (LamX.lamEnv X scope s.heap.objs.size f c')) → EV (LamX.lamCx X A outer s H E scope f c') S (fun cls d _ H => E cls d H) body gb)
    (hg : Gl X x := by rfl) (hdb : (x == ("__debug__" : Str)) = false := by decide) (hd : (a == ("__debug__" : Str)) = false := by decide) (hcd : (a == ("__classdict__" : Str)) = false := by decide) (hdc : (cE == ("__debug__" : Str)) = false := by decide)
    (hd2 : (en == ("__debug__" : Str)) = false := by decide) (hcd2 : (en == ("__classdict__" : Str)) = false := by decide) :
    EV X S W (.Call (.Name x p) [.Lambda params body scope lpos] [] pos) (gRef cE fE gb) := by
  obtain ⟨fd, Fn⟩ := Fn
  have hb := FunD.bindsN Fn hbd
  obtain ⟨oc, od, dV, kV, doc, pm, an, cdv, ct, osl, rfl, lk, hcd', _, _⟩ := Fn.ex
  refine ev_ref hm Fn.kp Er.gC lk hcd' hb Sg hNg hva ?_ TB hcode hmT hu hr L hdef hbind hbody hg hdb hd hcd
  rw [hsr]
  refine ref_gives Er.xf Er.no Er.te hgc Er.gC hdc (fun f => ?_) Sg.nd h1 hln hd2 hcd2 (hab _ _) (hsw _ _)
  unfold L2.start
  simp
theorem st_raiseD {ga : SS → R D} {c f sf y : Str} {pos2 : Pos} (Er : ∃ C fI fd, ErrC X.prog X.K X.mg c C fI f sf y fd) (hr : Room 2 X.A) (tk : Takes X W) (h : EV X S W e ga) (hc : X.calm = true := by rfl) (hg : Gl X c := by rfl) (hdb : (c == ("__debug__" : Str)) = false := by decide)
    (he : starEach [e] X.env = (false, eval e X.env) :: starEach [] X.env := by rfl) (hpl : (backTo pos (starEach [] X.env)).any (·.1) = false := by rfl) : ST X S W (.Raise (some (.Call (.Name c p) [e] [] pos)) none pos2) (gRaise c f ga) := by
  obtain ⟨C, fI, fd, Er⟩ := Er
  exact st_raise Er hr tk h hc hg hdb he hpl
end
/-! ### what the head tells of an own error with super().__init__ -/
structure IniD where
  cls : Str
  name : Str
  qual : Str
  params : Arguments
  body : List Stmt
  scope : Scope
abbrev FnC := Option (Str × Str × Arguments × FuncBody × Scope × Addr × List Str × Value × Addr)
def IniD.val (d : IniD) : FnC := some (d.name, d.qual, d.params, .stmts d.body, d.scope, mainGlobals, ["__class__"], .none, builtinsNs)
def iniObs (K : Frg) (c : Str) : FnC := match K.lookup (He.ma K (He.ga K c) "__init__") with
  | some ⟨_, _, .func fd, _⟩ => some (fd.name, fd.qualname, fd.params, fd.body, fd.scope, fd.globals, fd.closure.map (·.1), fd.defaults, fd.builtins)
  | _ => none
theorem ini_ok {K : Frg} {d : IniD} (h : iniObs K d.cls = d.val) : ∃ oc od osl kV doc pm an cdv ct cc, K.lookup (He.ma K (He.ga K d.cls) "__init__") = some ⟨oc, od, .func (PySem.W.ksFn d.name d.qual d.params d.body d.scope .none kV doc pm an cdv ct cc), osl⟩ := by
  unfold iniObs at h
  cases q : K.lookup (He.ma K (He.ga K d.cls) "__init__") with
  | none =>
    rw [q] at h
    cases h
  | some o =>
    obtain ⟨oc, od, dt, osl⟩ := o
    rw [q] at h
    cases dt with
    | func fd =>
      obtain ⟨n1, n2, n3, n4, n5, n6, n7, n8, n9, n10, n11, n12, n13, n14, n15⟩ := fd
      have e2 : (some (n1, n2, n3, n4, n5, n6, n7.map (·.1), n8, n15) : FnC) = some (d.name, d.qual, d.params, FuncBody.stmts d.body, d.scope, mainGlobals, [("__class__" : Str)], Value.none, builtinsNs) := h
      simp only [Option.some.injEq, Prod.mk.injEq] at e2
      obtain ⟨h1, h2, h3, h4, h5, h6, h7, h8, h9⟩ := e2
      subst h1 h2 h3 h4 h5 h6 h8 h9
      cases n7 with
      | nil => cases h7
      | cons a l =>
        cases l with
        | cons b l => simp at h7
        | nil =>
          obtain ⟨y, cc⟩ := a
          simp at h7
          subst h7
          exact ⟨oc, od, osl, n9, n10, n11, n12, n13, n14, cc, rfl⟩
    | _ => cases h
def oexB (K : Frg) (C : Addr) : Bool := match K.lookup C with
  | some ⟨.type "type", _, .cls cd, sl⟩ => (match cd.mro, sl.toList with
    | .ref C' :: bm, [_, _, _, _, some (.builtin n), _] => C' == C && (n == "ValueError.__new__" && (!cd.hasDel && (cd.hasDict && PySem.HandSPX.refsVE bm)))
    | _, _ => false)
  | _ => false
theorem oexB_ok {K : Frg} {C : Addr} (h : oexB K C = true) : ∃ nm q N bs bm sn sub ab col dd k0 k1 k2 k3 k5, K.lookup C = some (excClassObj nm q C N bs bm true sn sub ab col dd k0 k1 k2 k3 k5 "ValueError.__new__") ∧ PySem.HandSPX.refsVE bm = true := by
  unfold oexB at h
  split at h
  · rename_i dd cd sl ho
    split at h
    · rename_i C' bm k0 k1 k2 k3 n k5 hm hs
      simp only [Bool.and_eq_true, beq_iff_eq, Bool.not_eq_true'] at h
      obtain ⟨rfl, rfl, hdel, hdi, hbm⟩ := h
      obtain ⟨nm, bs, mro, ns, qn, hd, sn, sub, ab, col, del⟩ := cd
      obtain ⟨l⟩ := sl
      dsimp only at hm hdel hdi hs
      subst hm hdel hdi hs
      exact ⟨nm, qn, ns, bs, bm, sn, sub, ab, col, dd, k0, k1, k2, k3, k5, ho, hbm⟩
    · cases h
  · cases h
def fnAll (K : Frg) (fI C : Addr) (file0 : Str) : Bool := match K.lookup fI with
  | some ⟨_, _, .func fd, _⟩ => PySem.W.codeIn K fd.code fd.qualname && ((match fd.code with
    | .ref cda => (match K.lookup cda with
      | some ⟨_, _, .fields vs, _⟩ => (match (vs[2]? : Option Value) with
        | some (Value.str file _) => file0 == file
        | _ => false)
      | _ => false)
    | _ => false) && (match fd.closure with
    | [(_, cc)] => (match K.lookup cc with
      | some ⟨_, _, .cell (some (.ref D)), _⟩ => D == C
      | _ => false)
    | _ => false))
  | _ => false
theorem fnAll_ok {K : Frg} {fI C : Addr} {file0 : Str} {name qual : Str} {params : Arguments} {body : List Stmt} {scope : Scope} {dV kV doc pm : Value} {an : Option Addr} {cdv ct : Value} {cc : Addr} {oc : Value} {od : Option Addr} {osl : Array (Option Value)}
    (h : fnAll K fI C file0 = true) (lk : K.lookup fI = some ⟨oc, od, .func (PySem.W.ksFn name qual params body scope dV kV doc pm an cdv ct cc), osl⟩) : ∃ cda ccl cdd vs ccs file tf cl cld csl, cdv = .ref cda ∧ K.lookup cda = some ⟨ccl, cdd, .fields vs, ccs⟩ ∧ vs[2]? = some (.str file tf) ∧ (file0 == file) = true ∧
      PySem.W.codeIn K (.ref cda) qual = true ∧ K.lookup cc = some ⟨cl, cld, .cell (some (.ref C)), csl⟩ := by
  unfold fnAll at h
  rw [lk] at h
  obtain ⟨h1, h2⟩ := Bool.and_eq_true_iff.mp h
  obtain ⟨h2, h3⟩ := Bool.and_eq_true_iff.mp h2
  dsimp only at h1 h2 h3
  cases cdv with
  | ref cda =>
    have h2' : (match K.lookup cda with
      | some ⟨_, _, .fields vs, _⟩ => (match (vs[2]? : Option Value) with
        | some (Value.str file _) => file0 == file
        | _ => false)
      | _ => false) = true := h2
    have h3' : (match K.lookup cc with
      | some ⟨_, _, .cell (some (.ref D)), _⟩ => D == C
      | _ => false) = true := h3
    cases hc : K.lookup cda with
    | none =>
      rw [hc] at h2'
      cases h2'
    | some o =>
      obtain ⟨ccl, cdd, dt, ccs⟩ := o
      rw [hc] at h2'
      cases dt with
      | fields vs =>
        have h4 : (match (vs[2]? : Option Value) with
          | some (Value.str file _) => file0 == file
          | _ => false) = true := h2'
        split at h4
        · rename_i file tf hv
          cases he : K.lookup cc with
          | none =>
            rw [he] at h3'
            cases h3'
          | some o =>
            obtain ⟨cl, cld, dt, csl⟩ := o
            rw [he] at h3'
            split at h3'
            · rename_i D' e1 e2
              have e4 := beq_iff_eq.mp h3'
              cases e2
              rw [e4] at he
              exact ⟨cda, ccl, cdd, vs, ccs, file, tf, cl, cld, csl, rfl, hc, hv, h4, h1, by rw [e4]⟩
            · cases h3'
        · cases h4
      | _ => cases h2'
  | _ => cases h2
/-- all that a look at the written part tells of the error c with the field f -/
def errB (file0 : Str) (K : Frg) (c f : Str) : Bool :=
  oexB K (He.ga K c) && (decide (PySem.W.findIn K (.ref (He.ga K c)) "__setattr__" = some (some (.builtin "object.__setattr__"))) && (decide (PySem.W.subIn K (.ref (He.ga K c)) (.type "BaseException") = some true) && (decide (PySem.W.typeIn K (.ref (He.ga K c)) = some (.type "type")) && (PySem.W.keepIn K (.ref (He.ga K c)) &&
  (fnAll K (He.ma K (He.ga K c) "__init__") (He.ga K c) file0 && (decide (PySem.W.mroIn K (He.ga K c) (.ref (He.ga K c)) = some true) && (decide (PySem.W.ks_superIn K (He.ga K c) (He.ga K c) "__init__" = some (some (.builtin "ValueError.__init__"))) && (decide (PySem.W.subIn K (.ref (He.ga K c)) (.type "ValueError") = some true) &&
  (decide (PySem.W.nsIn K cStatics "thirdparty.any" = some none) && (decide (PySem.W.findIn K (.ref (He.ga K c)) f = some none) && (decide (PySem.W.findIn K (.ref (He.ga K c)) "__init__" = some (some (.ref (He.ma K (He.ga K c) "__init__")))) && (decide (PySem.W.typeIn K (.ref (He.ma K (He.ga K c) "__init__")) = some (.type "function")) &&
  (xfB K (He.ga K c) && decide (PySem.W.exmOne K (.ref (He.ga K c)) (.ref (He.ga K c)) = some true))))))))))))))
theorem errC_of {P : Program} {K : Frg} {mg : Str → Option Value} {c f sf x : Str} {d : IniD} (h : errB P.main.file K c f = true) (hc : d.cls = c) (ho : iniObs K d.cls = d.val) (hg : mg c = some (.ref (He.ga K c))) (hs : mg "super" = none) (htop : (P.main.scope.names.lookup ("super" : Str)).isSome = false)
    {p0 p1 apos pn cpos pe' ps p' px pa : Pos} {ar : Arg} (hbody : d.body = [.Expr (.Call (.Attribute (.Call (.Name "super" p0) [] [] p1) "__init__" apos) [.Name x pn] [] cpos) pe', .Assign [.Attribute (.Name sf ps) f p'] (.Name x px) pa])
    (har : (d.params.posonlyargs ++ d.params.args).head? = some ar) (hsf : ar.arg = sf) (hk : d.scope.kind = .function) (hco : d.scope.isCoroutine = false) (hge : d.scope.isGenerator = false) (hnc : ∀ y ∈ d.scope.names, y.2 ≠ .cell) (hsu : d.scope.names.lookup ("super" : Str) = some .globalImplicit)
    (hcl : d.scope.names.lookup ("__class__" : Str) = some .free) (hl1 : d.scope.names.lookup sf = some .local) (hl2 : d.scope.names.lookup x = some .local)
    (hsyn : ∀ (fI cda cc L : Addr), interactive (PySem.W.ksEnv d.qual d.scope L fI (.ref cda) cc) = false ∧ swapsWith (.Call (.Attribute (.Call (.Name "super" p0) [] [] p1) "__init__" apos) [.Name x pn] [] cpos) none pe'.line (PySem.W.ksEnv d.qual d.scope L fI (.ref cda) cc) = pure false ∧
      swapsWith (.Name x px) (some (.Attribute (.Name sf ps) f p')) pa.line (PySem.W.ksEnv d.qual d.scope L fI (.ref cda) cc) = pure false ∧ ∃ pl : Sem Bool, eval (.Call (.Attribute (.Call (.Name "super" p0) [] [] p1) "__init__" apos) [.Name x pn] [] cpos) (PySem.W.ksEnv d.qual d.scope L fI (.ref cda) cc) = (do
        let ov ← attributeBase (.Call (.Name "super" p0) [] [] p1) "__init__" (PySem.W.ksEnv d.qual d.scope L fI (.ref cda) cc) (eval (.Call (.Name "super" p0) [] [] p1) (PySem.W.ksEnv d.qual d.scope L fI (.ref cda) cc))
        standAt apos.atName
        let (f, first) ← holding [ov] (getMethod ov "__init__" pl)
        callWith cpos f first (backTo cpos (starEach [.Name x pn] (PySem.W.ksEnv d.qual d.scope L fI (.ref cda) cc))) []))
    (hne : sf ≠ x) (hd1 : (sf == ("__debug__" : Str)) = false) (hd2 : (x == ("__debug__" : Str)) = false)
    (hbind : ∀ (kV doc pm : Value) (an : Option Addr) (cdv ct : Value) (cc : Addr) (us : List Value), us.length = 2 → bindArgs (PySem.W.ksFn d.name d.qual d.params d.body d.scope .none kV doc pm an cdv ct cc) ⟨us, []⟩ = pure ([sf, x].zip us)) :
    ∃ C fI fd, ErrC P K mg c C fI f sf x fd := by
  subst hc
  obtain ⟨oc, od, osl, kV, doc, pm, an, cdv, ct, cc, lk⟩ := ini_ok ho
  unfold errB at h
  simp only [Bool.and_eq_true, decide_eq_true_eq] at h
  obtain ⟨a1, a2, a3, a4, a5, a6, a7, a8, a9, a10, a11, a12, a13, a14, a15⟩ := h
  obtain ⟨cda, ccl, cdd, vs, ccs, file, tf, cl, cld, csl, rfl, b1, b2, b3, b4, b5⟩ := fnAll_ok a6 lk
  refine ⟨_, _, _, { T := ⟨oexB_ok a1, a2, a3, a4, a5⟩, lk := ⟨d.name, d.qual, d.params, d.scope, p0, p1, apos, pn, cpos, pe', ps, p', px, pa, .none, kV, doc, pm, an, ct, cda, cc, oc, ccl, cl, .none, od, cdd, cld, osl, ccs, csl, vs, file, tf, ar, ?_, lk, b1, b2, b3, b4, b5, har, hsf, hk, hco, hge, hnc, hsu, hcl, hl1, hl2, (fun L => hsyn _ _ _ L)⟩, ne := hne, db1 := hd1, db2 := hd2, top := htop, sup := hs, sub := a7, si := a8, ve := a9, opq := a10, no := a11, bind := .all fun us hu => hbind _ _ _ _ _ _ _ us hu, gC := hg, iC := a12, tI := a13, xf := xfB_ok a14, te := a15 }⟩
  rw [hbody]
/-! ### the Hook -/
abbrev AlY : Type := He.AlX × List FnC
/-- what is looked at: what the module's names reach, and the statics -/
def asY (g : Addr → Option Obj) (n : Nat) : List Addr := cStatics :: He.asD g n
def obsK (fa : List He.Fa) (fn : List He.DefD) (tf : List He.Defn) (ex : Frg → Bool) (is : List IniD) (g : Addr → Option Obj) (K : Frg) : AlY := ((He.obsT fa fn [] K, ex K && He.tabsB g tf K), is.map fun d => iniObs K d.cls)
def obsY (n : Nat) (fa : List He.Fa) (fn : List He.DefD) (tf : List He.Defn) (ex : Frg → Bool) (is : List IniD) (g : Addr → Option Obj) : AlY := obsK fa fn tf ex is g (He.frT g (asY g n))
def valY (fn : List He.DefD) (is : List IniD) (w : World) : AlY := (He.valX fn [] w, is.map IniD.val)
theorem saysY_of {as : List Addr} {fa : List He.Fa} {fn : List He.DefD} {tf : List He.Defn} {ex : Frg → Bool} {is : List IniD} {w : World} {h : Heap} (e : obsK fa fn tf ex is h.get? (He.frT h.get? as) = valY fn is w) :
    He.SaysX fa fn [] tf ex w h (He.frT h.get? as) ∧ is.map (fun d => iniObs (He.frT h.get? as) d.cls) = is.map IniD.val := by
  have e0 : (He.obsT fa fn [] (He.frT h.get? as), ex (He.frT h.get? as) && He.tabsB h.get? tf (He.frT h.get? as)) = He.valX fn [] w := congrArg (fun z : AlY => z.1) e
  have e1 : He.obsT fa fn [] (He.frT h.get? as) = He.valT fn [] w := congrArg (fun z : He.AlX => z.1) e0
  have e2 : (ex (He.frT h.get? as) && He.tabsB h.get? tf (He.frT h.get? as)) = true := congrArg (fun z : He.AlX => z.2) e0
  obtain ⟨h1, h2⟩ := He.ba e2
  have key : ∀ p ∈ tf, PySem.W.codeHdIn (He.frT h.get? as) (He.cT (He.frT h.get? as) p).1 (He.cT (He.frT h.get? as) p).2 = true ∧ ∃ o, h.get? (He.cT (He.frT h.get? as) p).2 = some o ∧ He.emptyTab o = true := fun p hp => by
    obtain ⟨h3, h4⟩ := He.ba (List.all_eq_true.mp h2 p hp)
    refine ⟨h3, ?_⟩
    cases q : h.get? (He.cT (He.frT h.get? as) p).2 with
    | none =>
      rw [q] at h4
      cases h4
    | some o =>
      rw [q] at h4
      exact ⟨o, rfl, h4⟩
  refine ⟨⟨e1, h1, fun p hp => (key p hp).1, fun p hp => ?_, fun p hp => ?_⟩, congrArg (fun z : AlY => z.2) e⟩
  · obtain ⟨_, o, q, z⟩ := key p hp
    exact He.frT_none q z
  · obtain ⟨_, o, q, z⟩ := key p hp
    rw [q, He.emptyTab_eq z]
def hookY (n : Nat) (fa : List He.Fa) (fn : List He.DefD) (tf : List He.Defn) (ex : Frg → Bool) (is : List IniD) : PySem.W.Hook where
  α := AlY
  obs := fun s => obsY n fa fn tf ex is s.heap.get?
  val := fun w => valY fn is w
  says := fun w h => ∃ K : PySem.W.Frag, K.In h ∧ He.SaysX fa fn [] tf ex w h K ∧ is.map (fun d => iniObs K d.cls) = is.map IniD.val
  of := fun _ _ e => ⟨_, He.frT_in, saysY_of e⟩
  keeps := fun _ _ _ ⟨K, hK, c, i⟩ k => ⟨K, PySem.W.Frag.In.keeps hK k, ⟨c.t, c.more, c.hd, c.out, fun p hp => k _ _ (c.empty p hp)⟩, i⟩
theorem obsY_eq {n : Nat} {fa : List He.Fa} {fn : List He.DefD} {tf : List He.Defn} {ex : Frg → Bool} {is : List IniD} {g : Addr → Option Obj} {s : Shared} (h : ∀ a, g a = s.heap.get? a) : obsY n fa fn tf ex is g = (hookY n fa fn tf ex is).obs s := by
  have e : g = s.heap.get? := funext h
  rw [e] <;> rfl
/-! ### the law's def -/
theorem seq_frozen {K : Frg} {H : Hp} {a : Addr} {xs : List V} (h : SqL K H a xs) : ∃ F : Hp, SqL K F a xs ∧ Same F H ∧ ∀ b ps, F b ≠ some (.tbl ps) := by
  rcases h with h | h
  · refine ⟨fun b => if b = a then H a else none, ?_, fun b u q => ?_, fun b ps q => ?_⟩
    · rcases h with h | ⟨o, h⟩
      · exact .inl (.inl (by show (if a = a then H a else none) = _; rw [if_pos rfl]; exact h))
      · exact .inl (.inr ⟨o, by show (if a = a then H a else none) = _; rw [if_pos rfl]; exact h⟩)
    · by_cases e : b = a
      · have q' : (if b = a then H a else none) = some u := q
        rw [if_pos e] at q'
        rw [e]
        exact q'
      · have q' : (if b = a then H a else none) = some u := q
        rw [if_neg e] at q'
        cases q'
    · have q' : (if b = a then H a else none) = some (.tbl ps) := q
      by_cases e : b = a
      · rw [if_pos e] at q'
        rcases h with h | ⟨o, h⟩ <;> (rw [h] at q'; cases q')
      · rw [if_neg e] at q'
        cases q'
  · exact ⟨fun _ => none, .inr h, fun b u q => (nomatch (show (none : Option HO) = some u from q)), fun b ps q => (nomatch (show (none : Option HO) = some _ from q))⟩
/-- the law's promise from what its function on data tells -/
theorem law_sp {K : Frg} {mg : Str → Option Value} {T : List (Addr × Str)} {G : List SV → RF} {H : Hp} {a : Addr} {ns : List Int} (hS : SqL K H a (ns.map V.int)) (hT : LamX.Tabs T H) (hG : ∃ as, G [.q ns] = .ok (.d (.bool true)) as) :
    spD K mg T 1 G [.ref a] H (fun v _ => v = .bl true) fun _ _ _ => False := by
  obtain ⟨F, h1, h2, h3⟩ := seq_frozen hS
  obtain ⟨as, hG⟩ := hG
  have noO : ∀ {i : Nat} {c : OC}, ([SV.q ns].map some)[i]? = some (some (SV.o c)) → False := fun {i c} h => by
    cases i with
    | zero => cases h
    | succ i => simp at h
  refine ⟨F, fun _ => a, [.q ns], rfl, rfl, ⟨h2, h3, Same.refl _, fun b q => .inl q, Kp.refl _ _ _, hT, rfl, fun i x h => ?_, fun i c h => (noO h).elim, fun i j c c' h _ => (noO h).elim, fun _ _ => rfl, fun i c _ h => (noO h).elim, fun b ⟨i, c, h, _⟩ => (noO h).elim⟩, ?_⟩
  · cases i with
    | zero =>
      cases h
      exact ⟨.ref a, rfl, a, rfl, h1⟩
    | succ i => simp at h
  · rw [hG]
    intro v F' A' H' σ' δ' _ _ _ rv
    have r : Rp K F' (.bool true) v := rv
    cases r
    rfl
end DL
set_option Elab.async false
set_option linter.all false
set_option maxRecDepth 100000
set_option maxHeartbeats 4000000
namespace DL
open PySem PySem.Spec PyProof.Rows L2
/-! ### sorted(set(t)), t a tuple of ints -/
def insS (x : Int) : List Int → List Int
  | [] => [x]
  | y :: ys => if x < y then x :: y :: ys else if x = y then y :: ys else y :: insS x ys
def sortSet : List Int → List Int
  | [] => []
  | x :: xs => insS x (sortSet xs)
theorem insS_mem (x z : Int) : ∀ l : List Int, z ∈ insS x l ↔ z = x ∨ z ∈ l
  | [] => by simp [insS]
  | y :: ys => by
    unfold insS
    split
    · simp
    · split
      · rename_i e
        subst e
        simp
      · rw [List.mem_cons, insS_mem x z ys, List.mem_cons]
        constructor
        · rintro (h | h | h) <;> simp [h]
        · rintro (h | h | h) <;> simp [h]
theorem sortSet_mem (z : Int) : ∀ l : List Int, z ∈ sortSet l ↔ z ∈ l
  | [] => by simp [sortSet]
  | y :: ys => by
    unfold sortSet
    rw [insS_mem, sortSet_mem z ys, List.mem_cons]
theorem insS_pw (x : Int) : ∀ {l : List Int}, l.Pairwise (· < ·) → (insS x l).Pairwise (· < ·)
  | [], _ => by simp [insS]
  | y :: ys, h => by
    obtain ⟨h1, h2⟩ := List.pairwise_cons.mp h
    unfold insS
    split
    · rename_i e
      refine List.pairwise_cons.mpr ⟨fun z hz => ?_, h⟩
      rcases List.mem_cons.mp hz with rfl | hz
      · exact e
      · have := h1 z hz
        omega
    · split
      · exact h
      · refine List.pairwise_cons.mpr ⟨fun z hz => ?_, insS_pw x h2⟩
        rcases (insS_mem x z ys).mp hz with rfl | hz
        · omega
        · exact h1 z hz
theorem sortSet_pw : ∀ l : List Int, (sortSet l).Pairwise (· < ·)
  | [] => .nil
  | x :: xs => insS_pw x (sortSet_pw xs)
theorem pw_unique : ∀ {l l' : List Int}, l.Pairwise (· < ·) → l'.Pairwise (· < ·) → (∀ z, z ∈ l ↔ z ∈ l') → l = l'
  | [], [], _, _, _ => rfl
  | [], y :: ys, _, _, h => by simpa using (h y).mpr (by simp)
  | x :: xs, [], _, _, h => by simpa using (h x).mp (by simp)
  | x :: xs, y :: ys, h1, h2, h => by
    obtain ⟨a1, a2⟩ := List.pairwise_cons.mp h1
    obtain ⟨b1, b2⟩ := List.pairwise_cons.mp h2
    have e : x = y := by
      rcases List.mem_cons.mp ((h x).mp (by simp)) with z | z
      · exact z
      · rcases List.mem_cons.mp ((h y).mpr (by simp)) with w | w
        · exact w.symm
        · have p := b1 x z
          have q := a1 y w
          omega
    subst e
    rw [pw_unique a2 b2 fun z => ?_]
    constructor
    · intro hz
      rcases List.mem_cons.mp ((h z).mp (by simp [hz])) with w | w
      · have := a1 z hz
        omega
      · exact w
    · intro hz
      rcases List.mem_cons.mp ((h z).mpr (by simp [hz])) with w | w
      · have := b1 z hz
        omega
      · exact w
def cSortSet : D → Option OC
  | .tuple xs => (intsOf xs).bind fun ns => if ns.length < 60 + 4 then some (.l ((sortSet ns).map .int)) else none
  | _ => none
def tSortSet (K : Frg) (ta : TE) : TE := fun σ H Q => ta σ H fun x H1 => ∃ (l : Addr) (ns : List Int), x = V.ref l ∧ SqT K H1 l (ns.map V.int) ∧ ns.length < 64 ∧ ∀ p, H1 p = none → Q (.ref p) (upd H1 p (.lst ((sortSet ns).map V.int)))
theorem ints_vals : ∀ {out : List Value} {ns : List Int}, IntsAre out ns → Vals (ns.map V.int) out
  | _, _, .nil => .nil
  | _, _, .cons _ t h => .cons ⟨t, rfl⟩ (ints_vals h)
section
variable {X : Cx} {S : Sx} {W : WX} {a e : Expr} {ga : SS → R D}
theorem pe_sortSet {ta : TE} {p p2 q pos : Pos} (hc : X.calm = true) (hg : Gl X "sorted") (hm : X.mg "sorted" = none) (hg2 : Gl X "set") (hm2 : X.mg "set" = none) (ha : PE X a ta)
    (na : starEach [a] X.env = (false, eval a X.env) :: starEach [] X.env := by rfl) : PE X (.Call (.Name "sorted" p) [.Call (.Name "set" p2) [a] [] q] [] pos) (tSortSet X.K ta) := by
  refine ⟨fun pins s σ H Q I h => ?_⟩
  refine Call_ (ld_blt I hg hm PyProof.Rows.boot_sorted (PyProof.Rows.callWith_builtin1 (PyProof.Rows.args_cons ?_ rfl) rfl rfl))
  refine Call_ (ld_blt I hg2 hm2 PyProof.Rows.boot_set (PyProof.Rows.callWith_type1 (PyProof.Rows.args_cons (thn (ha.run pins s σ H _ I h) fun v s1 ⟨x, H1, I1, r1, q1⟩ => PyProof.Rows.args_nil ?_) na) na rfl))
  obtain ⟨l, ns, rfl, hq, hn, q1⟩ := q1
  cases r1
  obtain ⟨its, r, pl, hz⟩ := I1.tuple hq
  refine call_set_tupI ns (I1.ok.hd hc) pl (by simpa using r.ints) (by unfold scanBound; omega) fun h' tk c hS hcn hk => ?_
  have I2 : Inv X pins σ H1 { s1 with heap := h', toks := tk } := I1.kept hk
  refine PyProof.Rows.args_nil (sorted_set hS (I2.ok.hd hc) (by omega) fun s' p out c2 ns' k g o hp hg' hi hpw hmem hlen => ?_)
  have en : ns' = sortSet ns := pw_unique hpw (sortSet_pw ns) fun z => by
    rw [hmem z, sortSet_mem]
    simp
  have hnp : H1 p = none := I2.hok.fresh hp
  have hv : Vals (ns'.map V.int) out.toList := ints_vals hi
  have hll : (ns'.map V.int).length ≤ sizeLine := by
    rw [List.length_map, hlen, sizeLine_eq]
    omega
  have J : Inv X pins σ (upd H1 p (.lst (ns'.map V.int))) { { s1 with heap := h', toks := tk } with heap := s'.heap, gens := s'.gens, drawn := s'.drawn, toks := s'.toks } :=
    I2.call (ch := []) (Un.laid k hp hnp) (I2.hok.laid k hp ⟨hll, out.toList, c2, hv, hg'⟩) (by rw [g]; exact I2.bare) (fun _ z => nomatch z)
  have e : s' = { { s1 with heap := h', toks := tk } with heap := s'.heap, gens := s'.gens, drawn := s'.drawn, toks := s'.toks } := by
    cases s'
    cases s1
    cases o
    rfl
  rw [e]
  rw [en] at J
  exact ⟨.ref p, _, J, rfl, q1 p hnp⟩
theorem eo_sortSet {p p2 q pos : Pos} (h : EV X S W a ga) (hc : X.calm = true) (hm : X.mg "sorted" = none) (hm2 : X.mg "set" = none) (hg : Gl X "sorted" := by rfl) (hg2 : Gl X "set" := by rfl)
    (na : starEach [a] X.env = (false, eval a X.env) :: starEach [] X.env := by rfl) : EO X S W (.Call (.Name "sorted" p) [.Call (.Name "set" p2) [a] [] q] [] pos) (gUnN cSortSet ga) := by
  obtain ⟨t, pe, qe⟩ := h
  refine ⟨_, pe_sortSet hc hg hm hg2 hm2 pe na, fun Y A σ H δ F Q Rl h => qe _ _ _ _ _ _ _ Rl (Run.bind h fun x δ1 v H1 F1 _ R1 s1 rx h1 => ?_)⟩
  obtain ⟨c, ec, q⟩ := Run.opt h1
  cases rx with
  | @tup ad xs ds hx r =>
    have ec0 : ((intsOf ds).bind fun ns => if ns.length < 60 + 4 then some (OC.l ((sortSet ns).map .int)) else none) = some c := ec
    cases ei : intsOf ds with
    | none =>
      rw [ei] at ec0
      cases ec0
    | some ns =>
      rw [ei] at ec0
      have ec' : (if ns.length < 60 + 4 then some (OC.l ((sortSet ns).map .int)) else none) = some c := ec0
      by_cases hl : ns.length < 60 + 4
      · rw [if_pos hl] at ec'
        cases ec'
        have e1 := intsOf_eq ei
        subst e1
        have e2 := r.ints
        subst e2
        refine ⟨ad, ns, rfl, sqt_same R1.sub hx, hl, fun p hp => ?_⟩
        obtain ⟨a1, a2⟩ := rp_lst_new R1 (Rps.of_ints (sortSet ns)) hp
        exact q _ _ _ a1 (Same.refl _) a2
      · rw [if_neg hl] at ec'
        cases ec'
  | _ => cases ec
/-! ### t[::-1] of a tuple -/
theorem rev_pick (xs : Array Value) : ((List.range xs.size).filterMap fun (m : Nat) => xs[(((xs.size : Int) - 1) + (m : Int) * (-1)).toNat]?).toArray = xs.toList.reverse.toArray := by
  have e : (fun (m : Nat) => xs[(((xs.size : Int) - 1) + (m : Int) * (-1)).toNat]?) = fun m => xs[xs.size - 1 - m]? := by
    funext m
    have : (((xs.size : Int) - 1) + (m : Int) * (-1)).toNat = xs.size - 1 - m := by omega
    rw [this]
  have e2 : ((List.range xs.size).filterMap fun m => xs[xs.size - 1 - m]?) = ((List.range xs.size).map fun k => xs.size - 1 - k).filterMap (xs[·]?) := by
    rw [List.filterMap_map] <;> rfl
  rw [e, e2, PySem.W.krv_range, List.filterMap_reverse, PySem.W.krv_all]
theorem getItem_tuple_rev {prog : Program} {w : World} {A : Around} {E : Value → Shared → Prop} {s : Shared} {t sl : Addr} {items : Array Value} {vl vu vs : Value} {Q : Value → Shared → Prop} (ht : IsTup s.heap t items) (hs : s.heap.IsSliceOf sl vl vu vs) (pl : IsPart vl none) (pu : IsPart vu none) (ps : IsPart vs (some (-1)))
    (h : Q (.ref s.heap.objs.size) { s with heap := s.heap.push { cls := .type "tuple", data := .seq items.toList.reverse.toArray } }) (hsz : items.size ≤ sizeLine) : wpAny (model prog w) A (getItem (.ref t) (.ref sl)) Q E s := by
  have htake : sizeOk (.seq items.toList.reverse.toArray) := by
    show items.toList.reverse.toArray.size ≤ sizeLine
    rw [List.size_toArray, List.length_reverse, Array.length_toList]
    exact hsz
  obtain ⟨os, hos, hcs, hds⟩ := id hs
  have hTs : s.TypeIs (.ref sl) "slice" := ⟨os, hos, hcs⟩
  unfold getItem
  try with_reducible refine wpAny_holding ?_
  first | refine wpAny_bind (wpAny_pure ?_) | skip
  refine wpAny_bind (wpAny_sequenceKey ht.typeIs (by decide) (wpAny_bind (wpAny_callSpecial?_slot (name := Str.ofString "__getitem__") ht.typeIs PyProof.Rows.slot_tuple_getitem
    (wpAny_call_entry PyProof.Rows.slot_tuple_getitem ht.typeIs PyProof.Rows.entry_tuple_getitem ?_ (PyProof.Rows.args_tuple_getitem _ _)))))
  show wpAny _ _ (Builtin.Tuple.tupleItemsOf (.ref t) >>= _) _ _ s
  refine wpAny_bind (PyProof.Rows.tupleItemsOf_ ht (wpAny_bind (wpAny_typeOf hTs ?_)))
  rw [if_pos (by decide)]
  have hap : ∀ {A' : Around} {E' : Value → Shared → Prop} {Q' : Int × Int × Nat → Shared → Prop}, Q' ((items.size : Int) - 1, -1, items.size) s → wpAny (model prog w) A' (Builtin.Slice.sliceApplied (.ref sl) (pure (items.size : Int))) Q' E' s := fun {A' E' Q'} q => by
    unfold Builtin.Slice.sliceApplied Builtin.Slice.sliceFields
    refine wpAny_bind (wpAny_bind (wpAny_field hos hds (x := vl) rfl (wpAny_bind (wpAny_field hos hds (x := vu) rfl (wpAny_bind (wpAny_field hos hds (x := vs) rfl (wpAny_pure (wpAny_bind (HT.slicePart_ ps ?_)))))))))
    show wpAny _ _ (if ((-1 : Int) == 0) = true then _ else _) _ _ s
    rw [if_neg (by decide)]
    refine wpAny_bind (HT.slicePart_ pl (wpAny_bind (HT.slicePart_ pu (wpAny_bind (wpAny_pure ?_)))))
    have e3 : Builtin.Slice.slicePlaces ((items.size : Int) - 1) (-1) (-1) = items.size := by
      unfold Builtin.Slice.slicePlaces
      rw [if_neg (by decide)]
      by_cases hz : ((items.size : Int) - 1) > -1
      · rw [if_pos hz, show (-(-1 : Int)) = 1 by decide, Int.ediv_one]
        omega
      · rw [if_neg hz]
        omega
    show wpAny _ _ (pure (((items.size : Int) - 1), (-1 : Int), Builtin.Slice.slicePlaces ((items.size : Int) - 1) (-1) (-1))) _ _ s
    rw [e3]
    exact wpAny_pure q
  refine wpAny_bind (hap ?_)
  have hno : ¬ ((((items.size : Int) - 1) == 0 && (-1 : Int) == 1 && items.size == items.size) = true) := by
    rw [show ((-1 : Int) == 1) = false by decide, Bool.and_false, Bool.false_and]
    exact Bool.false_ne_true
  show wpAny _ _ (if (((items.size : Int) - 1) == 0 && (-1 : Int) == 1 && items.size == items.size) = true then _ else _) _ _ s
  rw [if_neg hno, rev_pick]
  first
    | exact wpAny_bind (m := Builtin.Tuple.tupleExact _) (wpAny_newObj_type (wpAny_pure ⟨_, rfl, wpAny_pure h⟩) htake)
    | exact wpAny_bind (m := Builtin.Tuple.tupleExact _) (wpAny_newObj_type (wpAny_bind (wpAny_pure (wpAny_pure ⟨_, rfl, wpAny_pure h⟩))) htake)
    | exact wpAny_bind (wpAny_bind (m := Builtin.Tuple.tupleExact _) (wpAny_newObj_type (wpAny_pure (wpAny_pure ⟨_, rfl, wpAny_pure h⟩)) htake))
    | exact wpAny_bind (wpAny_bind (m := Builtin.Tuple.tupleExact _) (wpAny_newObj_type (wpAny_pure ⟨_, rfl, wpAny_pure h⟩) htake))
def tRevT (K : Frg) (te : TE) : TE := fun σ H Q => te σ H fun x H1 => ∃ a xs, x = .ref a ∧ SqT K H1 a xs ∧ ∀ p, H1 p = none → Q (.ref p) (upd H1 p (.tup xs.reverse))
theorem pe_revT {te : TE} {k : Nat} {p1 p2 p3 pos : Pos} (he : PE X e te) : PE X (.Subscript e (.Slice none none (some (.UnaryOp .USub (.Constant (.int 1) k p1) p2)) p3) pos) (tRevT X.K te) := by
  refine ⟨fun pins s σ H Q I h => Subscript_ (thn (he.run pins s σ H _ I h) fun v s1 ⟨x, H1, I1, r1, q1⟩ => ?_)⟩
  obtain ⟨a, xs, ex, hx, q⟩ := q1
  subst ex
  cases r1
  have hst : PO X (some (.UnaryOp .USub (.Constant (.int 1) k p1) p2)) (tPart (tUn (rU fun i => .int (-i)) (tC (.int 1)))) := po_some (pe_un un_neg pe_int)
  refine wpAny_Slice (thn (po_none.run pins s1 σ H1 (fun o H2 => o = none ∧ H2 = H1) I1 ⟨rfl, rfl⟩) fun vl s2 ⟨l, H2, I2, pl, el, e2⟩ => ?_)
  subst el e2
  refine thn (po_none.run pins s2 σ H2 (fun o H3 => o = none ∧ H3 = H2) I2 ⟨rfl, rfl⟩) fun vu s3 ⟨u, H3, I3, pu, eu, e3⟩ => ?_
  subst eu e3
  refine thn (hst.run pins s3 σ H3 (fun o H4 => o = some (-1) ∧ H4 = H3) I3 ⟨1, rfl, -1, rfl, rfl, rfl⟩) fun vs s4 ⟨o, H4, I4, ps, eo, e4⟩ => ?_
  subst eo e4
  have I5 : Inv X pins σ H4 { s4 with heap := s4.heap.push { cls := .type "slice", data := .fields #[vl, vu, vs] } } := I4.kept (t' := s4.toks) fun b ob q => Heap.get?_push_of_some _ q
  obtain ⟨its, r, ht, hz⟩ := I5.tuple hx
  have hlen := r.length
  show wpAny (model X.prog X.w) X.A (subscriptTail e (.Slice none none (some (.UnaryOp .USub (.Constant (.int 1) k p1) p2)) p3) (.ref a) (.ref s4.heap.objs.size)) (L2.EP X pins σ Q) X.xe { s4 with heap := s4.heap.push { cls := .type "slice", data := .fields #[vl, vu, vs] } }
  refine tail_any (ops := [.ref a, .ref s4.heap.objs.size]) ht.typeIs (PyProof.Rows.slot_tuple_getitem.lookup) ?_ (by with_unfolding_all rfl)
  refine getItem_tuple_rev ht (Heap.IsSliceOf.new _ vl vu vs) pl pu ps ?_ (by rw [List.size_toArray]; omega)
  refine ⟨.ref _, _, I5.laid (t' := s4.toks) (o := .tup xs.reverse) (fun b ob q => Heap.get?_push_of_some _ q) (Nat.le_refl _) ?_, rfl, q _ (I5.hok.fresh (Nat.le_refl _))⟩
  exact ⟨by rw [List.length_reverse]; exact hz, _, r.reverse, IsTup.new _ _⟩
@[simp] def dRevT : D → Option D
  | .tuple xs => some (.tuple xs.reverse)
  | _ => none
theorem ev_revT {k : Nat} {p1 p2 p3 pos : Pos} (h : EV X S W e ga) : EV X S W (.Subscript e (.Slice none none (some (.UnaryOp .USub (.Constant (.int 1) k p1) p2)) p3) pos) (gUn dRevT ga) := by
  obtain ⟨t, pe, qe⟩ := h
  refine ⟨_, pe_revT pe, fun Y A σ H δ F Q Rl h => qe _ _ _ _ _ _ _ Rl (Run.bind h fun x δ1 v H1 F1 _ R1 s1 rx h1 => ?_)⟩
  obtain ⟨c, ec, q⟩ := Run.opt h1
  cases rx with
  | tup hx r =>
    cases ec
    refine ⟨_, _, rfl, sqt_same R1.sub hx, fun p hp => ?_⟩
    obtain ⟨b1, b2, b3⟩ := rp_tup_lay R1 r.reverse hp
    exact q _ _ _ b1 b2 b3
  | _ => cases ec
/-! ### enumerate(t), t a tuple -/
def IteT (K : Frg) (a : Addr) : It :=
  ⟨fun i H => ∃ (xs : List V) (x : V), SqT K H a xs ∧ xs[i]? = some x, fun i H v H' => ∃ T x, v = .ref T ∧ H T = none ∧ H' = upd H T (.tup [.int (i : Nat), x]) ∧ ∀ xs, SqT K H a xs → xs[i]? = some x, fun i H => ∃ xs : List V, SqT K H a xs ∧ xs.length ≤ i⟩
theorem tup_is {h : Heap} {a : Addr} {its : Array Value} (x : IsTup h a its) : h.IsTuple a its := x
theorem turn_enumT {P : Program} {w : World} {K : Frg} {elts : List Expr} {kk : Nat} {tpos : Pos} {a e it : Addr} (hai : a ≠ it) (hae : a ≠ e) :
    Turn P w K (.Tuple elts kk tpos) (IteT K a) [e, it] e (fun i h => (∃ old, IsEnum h e it ((i : Nat) : Int) old) ∧ h.IsTupleIter it a i ∧ e ≠ it) where
  mem := by simp
  obj := fun i h st b hb => by
    obtain ⟨⟨old, he⟩, ⟨o, ho, hc, hd⟩, _⟩ := st
    have e' : b = e ∨ b = it := by simpa using hb
    rcases e' with z | z
    · exact ⟨_, z ▸ he, fun v q => (nomatch (show Data.fields _ = Data.cell v from q))⟩
    · exact ⟨o, z ▸ ho, fun v q => by rw [hd] at q; cases q⟩
  keep := fun i h h' st k => let ⟨⟨old, he⟩, hi, hne⟩ := st; ⟨⟨old, k e (by simp) _ he⟩, hi.at fun o q => k it (by simp) o q, hne⟩
  item := by
    intro X hP hw hK hc i pins s σ H E I hf st hg
    subst hP hw hK
    obtain ⟨⟨old, he⟩, hit, hne⟩ := st
    obtain ⟨xs, x, hq, hx⟩ := hg
    obtain ⟨its, rv, p, hz⟩ := I.tuple hq
    obtain ⟨u, hu, ru⟩ := rv.get hx
    have hel : e < s.heap.objs.size := Heap.lt_size he
    have hil : it < s.heap.objs.size := by obtain ⟨_, q, _⟩ := hit; exact Heap.lt_size q
    have hi : i < its.toArray.size := by
      rw [List.size_toArray]
      exact (List.getElem?_eq_some_iff.mp hu).1
    have Dr := Draws.tuple (prog := X.prog) (w := X.w) (A := X.A.in1) (by rw [show X.A.in1.handled = X.A.handled from rfl]; exact I.ok.hd hc) it a hai its.toArray
    refine wpAny_pyNext_enum_itemD Dr he ⟨hit, tup_is p⟩ hi hne (by simp [hne, Ne.symm hae]) fun x' h' tk hP ho hst' hT hsz hk => ?_
    have ex : x' = u := by
      have hP' : its.toArray[i]? = some x' := hP
      rw [List.getElem?_toArray, hu] at hP'
      exact (Option.some.inj hP').symm
    subst ex
    refine ⟨_, rfl, wpAny_letOwnedTupleGo_enum (s := { s with heap := h', toks := tk + 1 }) ho fun h'' he' sb => ?_⟩
    have hT2 : h''.get? s.heap.objs.size = some { cls := .type "tuple", data := .seq #[.int i tk, x'] } := (sb.2 _ (Nat.ne_of_gt hel)).trans hT
    have new : ObjOk X.prog X.w (upd H s.heap.objs.size (.tup [.int (i : Nat), x])) h'' s.heap.objs.size (.tup [.int (i : Nat), x]) :=
      ⟨by show 2 ≤ sizeLine; decide, [.int i tk, x'], .cons ⟨_, rfl⟩ (.cons ru .nil), ⟨_, hT2, rfl, _, rfl⟩⟩
    have I1 : Inv X pins σ (upd H s.heap.objs.size (.tup [.int (i : Nat), x])) { s with heap := h'', toks := tk + 1 } :=
      I.turnedNew (ch := [e, it]) (fun b ob hb q => (sb.2 b (fun z => hb (by simp [z]))).trans (hk b ob (fun z => hb (by simp [z])) (fun z => hb (by simp [z])) q)) hf (Nat.le_refl _) new
    refine ⟨.ref s.heap.objs.size, _, I1, rfl, ⟨_, x, rfl, I.hok.fresh (Nat.le_refl _), rfl, fun ys hy => by rw [I.tuple_inj hy hq]; exact hx⟩, ⟨⟨x', ?_⟩, hst'.1.at fun o q => (sb.2 it (Ne.symm hne)).trans q, hne⟩, fun b hb => ?_⟩
    · rw [show ((i + 1 : Nat) : Int) = (i : Int) + 1 by omega]
      exact he'
    · have hb' : b < s.heap.objs.size := by
        have e' : b = e ∨ b = it := by simpa using hb
        rcases e' with z | z
        · exact z ▸ hel
        · exact z ▸ hil
      rw [upd_ne (Nat.ne_of_lt hb')]
      exact (hf b hb).1
  done := by
    intro X hP hw hK hc i pins s σ H E I hf st hg
    subst hP hw hK
    obtain ⟨⟨old, he⟩, hit, hne⟩ := st
    obtain ⟨xs, hq, hx⟩ := hg
    obtain ⟨its, rv, p, hz⟩ := I.tuple hq
    obtain ⟨f0, f1, f2, f3, f4, f5⟩ := hf it (by simp)
    have hl := rv.length
    have Dr : Draws X.prog X.w X.A.in1 it [it, a] i (fun _ _ => True) (fun j h => j = i ∧ h.IsTupleIter it a i ∧ h.IsTuple a its.toArray) :=
      { live := fun _ _ st => let ⟨o, ho, _⟩ := st.2.1; ⟨o, ho⟩
        frame := fun _ _ _ st hk => ⟨st.1, st.2.1.at fun o e => hk it (by simp) o e, st.2.2.at fun o e => hk a (by simp) o e⟩
        item := fun j s Q E hlt st => absurd st.1 (Nat.ne_of_lt hlt)
        done := fun s Q E st hE => wpAny_nextOf_tuple_end (by rw [show X.A.in1.handled = X.A.handled from rfl]; exact I.ok.hd hc) st.2.1 st.2.2 (by simp; omega) hE }
    exact wpAny_pyNext_enum_endD Dr he ⟨rfl, hit, tup_is p⟩ fun h' eb => ⟨rfl, I.turned (t' := s.toks) (fun b o hb q => eb b o hb q) f0 f1 f3 f4 f5⟩
  self := fun A i s Q E st h => let ⟨⟨_, he⟩, _⟩ := st; wpAny_pyIter_enum he h
theorem meets_enumT (l : Addr) (items : Array Value) :
    Meets (Builtin.«enumerate.__new__» ⟨[.type "enumerate", .ref l], []⟩) (fun _ R s => s.heap.IsTuple l items ∧
      R (.ok (.ret (.ref (s.heap.push { cls := .type "tuple_iterator", data := .fields #[.ref l, .int 0 0] }).objs.size))) { s with heap := (s.heap.push { cls := .type "tuple_iterator", data := .fields #[.ref l, .int 0 0] }).push { cls := .type "enumerate", data := .fields #[.none, .bool false, .ref s.heap.objs.size, rawInt 0, .none, .none] } }) :=
  .of_wp fun prog w A R s h => by
    obtain ⟨hp, g, d, tk, os⟩ := s
    obtain ⟨h1, h⟩ := h
    have hsub := sub_enumerate
    have q1 : ∀ {A' : Around} {E : Value → Shared → Prop} {Q : Value → Shared → Prop}, Q (.ref hp.objs.size) ⟨hp.push { cls := .type "tuple_iterator", data := .fields #[.ref l, .int 0 0] }, g, d, tk, os⟩ → wpAny (model prog w) A' (pyIter (.ref l)) Q E ⟨hp, g, d, tk, os⟩ :=
      fun q => (begins_tuple l items).iter prog w _ _ ⟨hp, g, d, tk, os⟩ _ h1 q
    wp_walk using q1
    refine wpAny_stack_any fun st => wpAny_pure ?_
    split
    · rename_i c _ _ _ _ _
      cases (c == Value.type "enumerate") <;> (wp_walk using q1; exact ⟨_, rfl, h⟩)
    · wp_walk using q1
      exact ⟨_, rfl, h⟩
theorem call_enumT {prog : Program} {w : World} {A : Around} {E : Value → Shared → Prop} {s : Shared} {l : Addr} {items : Array Value} {Q : Value → Shared → Prop} (hL : s.heap.IsTuple l items)
    (h : ∀ h', IsEnum h' (s.heap.objs.size + 1) s.heap.objs.size 0 .none → h'.IsTupleIter s.heap.objs.size l 0 → h'.objs.size = s.heap.objs.size + 2 →
      (∀ b o, s.heap.get? b = some o → h'.get? b = some o) → Q (.ref (s.heap.objs.size + 1)) { s with heap := h' }) : wpAny (model prog w) A (call (.type "enumerate") [.ref l]) Q E s := by
  refine callType_new F.called_enumerate (by decide) (F.typeCall_enumerate_1 _) (F.newCall_enumerate_1 _) (fun obj => F.args_object_init_2 obj _) F.entry_enumerate_new (meets_enumT l items) ⟨hL, ?_⟩
  have hz : (s.heap.push { cls := .type "tuple_iterator", data := .fields #[.ref l, .int 0 0] }).objs.size = s.heap.objs.size + 1 := Heap.size_push ..
  show _ ∧ _
  rw [hz]
  have he : IsEnum ((s.heap.push { cls := .type "tuple_iterator", data := .fields #[.ref l, .int 0 0] }).push { cls := .type "enumerate", data := .fields #[.none, .bool false, .ref s.heap.objs.size, rawInt 0, .none, .none] }) (s.heap.objs.size + 1) s.heap.objs.size 0 .none := by
    have z := Heap.get?_push_size (s.heap.push { cls := .type "tuple_iterator", data := .fields #[.ref l, .int 0 0] }) (o := { cls := .type "enumerate", data := .fields #[.none, .bool false, .ref s.heap.objs.size, rawInt 0, .none, .none] }) rfl
    rw [hz] at z
    exact z
  exact ⟨⟨_, he, rfl⟩, h _ he ⟨_, Heap.get?_push_of_some _ (Heap.get?_push_size _ rfl), rfl, rfl⟩ (by rw [Heap.size_push, hz]) fun b o x => Heap.get?_push_of_some _ (Heap.get?_push_of_some _ x)⟩
def iEnumT (K : Frg) (ta : TA) : TI := fun σ H R => ta σ H fun vs H1 => ∃ a xs, vs = [.ref a] ∧ SqT K H1 a xs ∧ R (IteT K a) H1
theorem pi_enumT {ta : TA} {p pos tpos : Pos} {elts : List Expr} {kk : Nat} (hg : Gl X "enumerate") (hm : X.mg "enumerate" = none) (ha : PA X [e] ta) (hs : starEach [e] X.env = [(false, eval e X.env)] := by rfl) :
    PI X (.Tuple elts kk tpos) (.Call (.Name "enumerate" p) [e] [] pos) (iEnumT X.K ta) := by
  refine ⟨fun pins s σ H R I h => Call_ (ld_blt I hg hm boot_enumerate (PyProof.Rows.callWith_type1 (thn (ha.run pos pins s σ H _ I h) fun us s1 ⟨vs, H1, I1, r1, q1⟩ => ?_) hs rfl))⟩
  obtain ⟨a, xs, ex, hq, q⟩ := q1
  subst ex
  cases r1 with
  | cons r rr =>
    cases rr
    cases r
    obtain ⟨its, rv, p', hz⟩ := I1.tuple hq
    have hal : a < s1.heap.objs.size := by obtain ⟨_, z, _⟩ := id p'; exact Heap.lt_size z
    refine call_enumT (tup_is p') fun h' he hit hsz hk => wpAny_pyIter_enum he ?_
    have I2 : Inv X pins σ H1 { s1 with heap := h' } := I1.kept (t' := s1.toks) hk
    refine ⟨s1.heap.objs.size + 1, [s1.heap.objs.size + 1, s1.heap.objs.size], _, _, H1, rfl, I2, turn_enumT (Nat.ne_of_lt hal) (Nat.ne_of_lt (Nat.lt_succ_of_lt hal)), ⟨⟨.none, he⟩, hit, Nat.succ_ne_self _⟩, fun b hb => ?_, q⟩
    have e' : b = s1.heap.objs.size + 1 ∨ b = s1.heap.objs.size := by simpa using hb
    have hle : s1.heap.objs.size ≤ b := by
      rcases e' with z | z
      · exact z ▸ Nat.le_add_right _ _
      · exact z ▸ Nat.le_refl _
    exact I1.fpOk hle (I1.hok.fresh hle)
def gEnum (f : D → Option (List D)) (g : SS → R D) : SS → R (List D) := fun δ => (g δ).bind fun x δ1 => match f x with
  | some xs => .ok (enumD xs) δ1
  | none => .bad
@[simp] def asTup : D → Option (List D)
  | .tuple xs => some xs
  | _ => none
theorem iv_enumT {p pos : Pos} {elts : List Expr} {kk : Nat} {tpos : Pos} (h : EV X S W e ga) (hm : X.mg "enumerate" = none) (hg : Gl X "enumerate" := by rfl) (hs : starEach [e] X.env = [(false, eval e X.env)] := by rfl) :
    IV X S W (.Tuple elts kk tpos) (.Call (.Name "enumerate" p) [e] [] pos) (gEnum asTup ga) := by
  obtain ⟨t, pe, q⟩ := h
  refine ⟨_, pi_enumT hg hm (pa_cons pe pa_nil (by rw [hs]; rfl)) hs, fun Y A σ H δ F Q Rl hr => q _ _ _ _ _ _ _ Rl (Run.bind hr fun x δ1 v H1 F1 _ R1 s1 rx h1 => ?_)⟩
  cases rx with
  | tup hx r =>
    refine ⟨_, _, rfl, sqt_same R1.sub hx, h1 _ _ _ R1 (Same.refl _) fun S Y A σ δ H F' i Rl s => ?_⟩
    have k1 : SqT X.K H _ _ := sqt_same (s.trans Rl.sub) hx
    refine ⟨fun d hd => ?_, fun hl => ⟨_, k1, ?_⟩⟩
    · obtain ⟨x, g1, rfl⟩ := enum_get hd
      obtain ⟨v, h3, h4⟩ := r.get g1
      refine ⟨⟨_, _, k1, h3⟩, fun w H' ⟨T, x', e1, e2, e3, e4⟩ => ?_⟩
      subst e1 e3
      have z1 := e4 _ k1
      rw [h3] at z1
      cases z1
      exact pair_lay Rl (.cons (.int _) (.cons (h4.mono s) .nil)) e2
    · rw [r.length]
      simpa [enumD] using hl
  | _ => exact h1.elim
/-- an own object is frozen ahead of a statement -/
def gFrz (i : Nat) (g : SS → R Fl) : SS → R Fl := fun δ => match δ[i]? with
  | some (some (.o c)) => g (δ.set i (some (.d c.toD)))
  | _ => .bad
theorem st_frz (i : Nat) {st : Stmt} {g : SS → R Fl} (h : ST X S W st g) (hp : S.np ≤ i := by exact Nat.le_of_ble_eq_true rfl) : ST X S W st (gFrz i g) := by
  obtain ⟨t, p, q⟩ := h
  refine ⟨t, p, fun Y A σ H δ F E hl Rl h => ?_⟩
  unfold gFrz at h
  split at h
  · rename_i c e
    obtain ⟨F', R1, s1⟩ := Rl.frz e hp
    exact q _ _ _ _ _ _ _ hl R1 (RunS.weak h s1)
  · exact h.elim
def gScrLen (i : Nat) : SS → R D := fun δ => (gScr i δ).bind fun ns δ1 => .ok (.int ns.length) δ1
def gEnumL (g : SS → R D) : SS → R (List D) := fun δ => (gItL g δ).bind fun xs δ1 => .ok (enumD xs) δ1
def gScrSl (i : Nat) (gl gh : SS → R (Option Int)) : SS → R OC := gSl cSlL (fun δ => (gScr i δ).bind fun ns δ1 => .ok (.list (ns.map .int)) δ1) gl gh
/-- a look at a block's names -/
def blkB (N : List Str) (sc scope : Scope) (own : List (Str × Nat)) : Bool :=
  decide (scope.kind = .function) && (scope.names.all (fun y => decide (scope.names.lookup y.1 = some y.2)) && (own.all (fun p => decide (N[p.2]? = some p.1)) && (scope.names.all (fun y => !decide (y.2 = .free) || (decide (sc.names.lookup y.1 = some .cell) || decide (sc.names.lookup y.1 = some .free))) &&
  scope.names.all fun y => !(decide (y.2 = .local) || decide (y.2 = .cell)) || ((own.map (·.1)).contains y.1 || !N.contains y.1))))
theorem blk_by {N : List Str} {sc scope : Scope} {own : List (Str × Nat)} (h : blkB N sc scope own = true) : BlkOk N sc scope own := by
  unfold blkB at h
  simp only [Bool.and_eq_true, decide_eq_true_eq, List.all_eq_true] at h
  obtain ⟨h1, h2, h3, h4, h5⟩ := h
  refine ⟨h1, h2, h3, fun y hy e => ?_, fun y hy e => ?_⟩
  · have z := h4 y hy
    rw [e] at z
    simpa using z
  · have z := h5 y hy
    rcases e with e | e <;> (rw [e] at z; simpa [Bool.or_eq_true] using z)
end
end DL
set_option Elab.async false
set_option linter.all false
set_option maxRecDepth 100000
set_option maxHeartbeats 4000000
namespace DL
open PySem PySem.Spec PyProof.Rows L2
/-! ### dicts: keys are ints and texts -/
def keyP : D → Option Key
  | .int i => some (.inl i)
  | .str z => some (.inr z)
  | _ => none
def valD (kvs : List (D × D)) (k : Key) : Option D := (kvs.find? fun kv => decide (keyP kv.1 = some k)).map (·.2)
def putD (kvs : List (D × D)) (k : Key) (v : D) : List (D × D) :=
  if (kvs.any fun kv => decide (keyP kv.1 = some k)) = true then kvs.map (fun kv => if keyP kv.1 = some k then (kv.1, v) else kv) else kvs ++ [(keyD k, v)]
theorem keyP_D (k : Key) : keyP (keyD k) = some k := by cases k <;> rfl
theorem rp_key {K : Frg} {F : Hp} {x : D} {v : V} {k : Key} (r : Rp K F x v) (h : keyP x = some k) : v = kV k := by
  cases r <;> simp [keyP] at h <;> subst h <;> rfl
theorem Rpk.val {K : Frg} {F : Hp} (k : Key) : ∀ {kvs : List (D × D)} {ws : List (Key × V)}, Rpk K F kvs ws → (valD kvs k = none ∧ valV ws k = none) ∨ ∃ d v, valD kvs k = some d ∧ valV ws k = some v ∧ Rp K F d v
  | _, _, .nil => .inl ⟨rfl, rfl⟩
  | _, _, .cons (k := j) (d := d) (v := v) a t => by
    by_cases e : j = k
    · subst e
      exact .inr ⟨d, v, by simp [valD, List.find?_cons, keyP_D], by simp [valV, List.find?_cons], a⟩
    · have e1 : ∀ ds : List (D × D), valD ((keyD j, d) :: ds) k = valD ds k := fun ds => by simp [valD, List.find?_cons, keyP_D, e]
      have e2 : ∀ vs : List (Key × V), valV ((j, v) :: vs) k = valV vs k := fun vs => by simp [valV, List.find?_cons, e]
      rw [e1, e2]
      exact t.val k
theorem Rpk.length {K : Frg} {F : Hp} : ∀ {kvs : List (D × D)} {ws : List (Key × V)}, Rpk K F kvs ws → ws.length = kvs.length
  | _, _, .nil => rfl
  | _, _, .cons _ t => by rw [List.length_cons, List.length_cons, t.length]
theorem Rpk.anyK {K : Frg} {F : Hp} (k : Key) : ∀ {kvs : List (D × D)} {ws : List (Key × V)}, Rpk K F kvs ws → (kvs.any fun kv => decide (keyP kv.1 = some k)) = (ws.any fun kv => decide (kv.1 = k))
  | _, _, .nil => rfl
  | _, _, .cons (k := j) _ t => by
    rw [List.any_cons, List.any_cons, t.anyK k, keyP_D]
    congr 1
    by_cases e : j = k <;> simp [e]
theorem Rpk.repl {K : Frg} {F : Hp} {d : D} {v : V} (k : Key) (r : Rp K F d v) : ∀ {kvs : List (D × D)} {ws : List (Key × V)}, Rpk K F kvs ws → Rpk K F (kvs.map fun kv => if keyP kv.1 = some k then (kv.1, d) else kv) (ws.map fun kv => if kv.1 = k then (kv.1, v) else kv)
  | _, _, .nil => .nil
  | _, _, .cons (k := j) a t => by
    rw [List.map_cons, List.map_cons]
    by_cases e : j = k
    · rw [if_pos (by rw [keyP_D, e]), if_pos e]
      exact .cons r (t.repl k r)
    · rw [if_neg (by rw [keyP_D]; exact fun z => e (Option.some.inj z)), if_neg e]
      exact .cons a (t.repl k r)
theorem Rpk.snoc {K : Frg} {F : Hp} {d : D} {v : V} (k : Key) (r : Rp K F d v) : ∀ {kvs : List (D × D)} {ws : List (Key × V)}, Rpk K F kvs ws → Rpk K F (kvs ++ [(keyD k, d)]) (ws ++ [(k, v)])
  | _, _, .nil => .cons r .nil
  | _, _, .cons a t => .cons a (t.snoc k r)
theorem Rpk.put {K : Frg} {F : Hp} {d : D} {v : V} (k : Key) (r : Rp K F d v) {kvs : List (D × D)} {ws : List (Key × V)} (h : Rpk K F kvs ws) : Rpk K F (putD kvs k d) (putK ws k v) := by
  unfold putD putK
  rw [h.anyK k]
  split
  · exact h.repl k r
  · exact h.snoc k r
theorem Rpk.keys {K : Frg} {F : Hp} : ∀ {kvs : List (D × D)} {ws : List (Key × V)}, Rpk K F kvs ws → kvs.map (·.1) = ws.map fun w => keyD w.1
  | _, _, .nil => rfl
  | _, _, .cons _ t => by rw [List.map_cons, List.map_cons, t.keys]
theorem rp_keyD {K : Frg} {F : Hp} (k : Key) : Rp K F (keyD k) (kV k) := by cases k with
  | inl i => exact .int i
  | inr z => exact .str z
/-! ### slots that hold a dict -/
def dAt (δ : SS) (i : Nat) : Option (List (D × D)) := match δ[i]? with
  | some (some (.o (.m kvs))) => some kvs
  | some (some (.f kvs)) => some kvs
  | _ => none
theorem dAt_rd {K : Frg} {S : Sx} {Y : Dy} {F : Hp} {A : Nat → Addr} {H : Hp} {σ : L2.St} {δ : SS} {i : Nat} {kvs : List (D × D)} (R : Rel K S Y F A H σ δ) (h : dAt δ i = some kvs) : ∃ b ws, σ[i]? = some (some (.ref b)) ∧ Rd H b (.dK ws) ∧ Rpk K F kvs ws := by
  unfold dAt at h
  split at h
  · rename_i ks e
    cases h
    obtain ⟨o, h1, h2, h3⟩ := R.own_at e
    cases h3 with
    | m r => exact ⟨_, _, h1, .inl h2, r⟩
  · rename_i ks e
    cases h
    obtain ⟨v, h1, b, od, ws, rfl, h2, h3⟩ := R.slot i _ e
    exact ⟨b, ws, h1, .inr ⟨od, h2⟩, h3⟩
  · cases h
section
variable {X : Cx} {S : Sx} {W : WX} {a b c e : Expr} {es : List Expr} {pos pos2 p : Pos} {ga gb gc : SS → R D}
/-- {} -/
def gNewM : SS → R OC := fun δ => .ok (.m []) δ
theorem eo_dnew : EO X S W (.Dict [] [] pos) gNewM := by
  refine ⟨_, pe_dnewK, fun Y A σ H δ F Q Rl h p hp => ?_⟩
  have fr := Rl.fresh hp
  exact h _ _ _ (Rl.laid hp) (Same.refl _) ⟨p, _, rfl, upd_same, .m .nil, ⟨fr.f, fr.h0, fr.ne⟩⟩
/-- d[k], d an own dict or one that is walked -/
def gDIx (i : Nat) (gb : SS → R D) : SS → R D := fun δ => if (dAt δ i).isSome = true then (gb δ).bind fun y δ1 => R.opt ((keyP y).bind fun k => (dAt δ1 i).bind fun kvs => valD kvs k) δ1 else .bad
theorem dAt_same {K : Frg} {S : Sx} {Y : Dy} {F F' : Hp} {A : Nat → Addr} {H H' : Hp} {σ : L2.St} {δ δ' : SS} {i : Nat} {kvs kvs' : List (D × D)} (R : Rel K S Y F A H σ δ) (R' : Rel K S Y F' A H' σ δ') (h : dAt δ i = some kvs) (h' : dAt δ' i = some kvs') :
    ∃ b ws ws', σ[i]? = some (some (.ref b)) ∧ Rd H b (.dK ws) ∧ Rpk K F kvs ws ∧ Rd H' b (.dK ws') ∧ Rpk K F' kvs' ws' := by
  obtain ⟨b, ws, h1, h2, h3⟩ := dAt_rd R h
  obtain ⟨b', ws', k1, k2, k3⟩ := dAt_rd R' h'
  rw [h1] at k1
  cases k1
  exact ⟨b, ws, ws', h1, h2, h3, k2, k3⟩
theorem ev_dixO (i : Nat) {x : Str} (hu : X.A.units + 64 < cLine) (hb : EV X S W b gb) (hs : NoSl b := by exact fun _ _ => rfl) (hN : X.N[i]? = some x := by rfl) (hv : Vis X.env.scope x := by first | exact Or.inl rfl | exact Or.inr (Or.inl rfl) | exact Or.inr (Or.inr rfl)) (hd : (x == ("__debug__" : Str)) = false := by decide)
    (hcd : (x == ("__classdict__" : Str)) = false := by decide) : EV X S W (.Subscript (.Name x p) b pos) (gDIx i gb) := by
  obtain ⟨tb, pb, qb⟩ := hb
  refine ⟨_, pe_dget (by omega) (pe_var hN hv hd hcd) pb hs, fun Y A σ H δ F Q Rl h => ?_⟩
  unfold gDIx at h
  split at h
  · rename_i h0
    obtain ⟨kvs, h0⟩ := Option.isSome_iff_exists.mp h0
    obtain ⟨b0, ws, h1, h2, h3⟩ := dAt_rd Rl h0
    refine ⟨_, h1, qb _ _ _ _ _ _ _ Rl (Run.bind h fun y δ1 u H1 F1 _ R1 s1 ry g1 => ?_)⟩
    obtain ⟨d, ed, q⟩ := Run.opt g1
    obtain ⟨k, ek, ed⟩ := Option.bind_eq_some_iff.mp ed
    obtain ⟨kv, e1, ed⟩ := Option.bind_eq_some_iff.mp ed
    obtain ⟨b1, ws1, _, k1, _, _, k2, k3⟩ := dAt_same Rl R1 h0 e1
    rw [h1] at k1
    cases k1
    rw [rp_key ry ek]
    rcases k3.val k with ⟨z, _⟩ | ⟨d', v, z1, z2, z3⟩
    · rw [z] at ed
      cases ed
    · rw [z1] at ed
      cases ed
      exact ⟨_, v, rfl, .inl ⟨_, k, k2, rfl, z2.symm⟩, q _ _ _ R1 (Same.refl _) z3⟩
  · exact h.elim
/-- d.get(k, x) -/
def gDGet (i : Nat) (gb gc : SS → R D) : SS → R D := fun δ => if (dAt δ i).isSome = true then (gb δ).bind fun y δ1 => (gc δ1).bind fun z δ2 => R.opt ((keyP y).bind fun k => (dAt δ2 i).map fun kvs => (valD kvs k).getD z) δ2 else .bad
theorem ev_dget2 (i : Nat) {x : Str} {apos : Pos} (hu : X.A.units + 64 < cLine) (hb : EV X S W b gb) (hc : EV X S W c gc) (m : M2 X (.Name x p) "get" apos b c pos := by exact ⟨rfl, rfl, rfl, rfl⟩) (hN : X.N[i]? = some x := by rfl) (hv : Vis X.env.scope x := by first | exact Or.inl rfl | exact Or.inr (Or.inl rfl) | exact Or.inr (Or.inr rfl)) (hd : (x == ("__debug__" : Str)) = false := by decide)
    (hcd : (x == ("__classdict__" : Str)) = false := by decide) : EV X S W (.Call (.Attribute (.Name x p) "get" apos) [b, c] [] pos) (gDGet i gb gc) := by
  obtain ⟨tb, pb, qb⟩ := hb
  obtain ⟨tc, pc, qc⟩ := hc
  refine ⟨_, pe_dget2 (by omega) (pe_var hN hv hd hcd) pb pc m, fun Y A σ H δ F Q Rl h => ?_⟩
  unfold gDGet at h
  split at h
  · rename_i h0
    obtain ⟨kvs, h0⟩ := Option.isSome_iff_exists.mp h0
    obtain ⟨b0, ws, h1, h2, h3⟩ := dAt_rd Rl h0
    refine ⟨_, h1, _, rfl, .inl ⟨_, h2⟩, qb _ _ _ _ _ _ _ Rl (Run.bind h fun y δ1 u H1 F1 _ R1 s1 ry g1 => ?_)⟩
    refine qc _ _ _ _ _ _ _ R1 (Run.bind g1 fun z δ2 u2 H2 F2 _ R2 s2 rz g2 => ?_)
    obtain ⟨d, ed, q⟩ := Run.opt g2
    obtain ⟨k, ek, ed⟩ := Option.bind_eq_some_iff.mp ed
    obtain ⟨kv, e1, ed⟩ := Option.map_eq_some_iff.mp ed
    obtain ⟨b1, ws1, _, k1, _, _, k2, k3⟩ := dAt_same Rl R2 h0 e1
    rw [h1] at k1
    cases k1
    rw [rp_key (ry.mono s2) ek]
    refine ⟨_, .inl ⟨_, k, k2, rfl, rfl⟩, ?_⟩
    rcases k3.val k with ⟨z1, z2⟩ | ⟨d', v, z1, z2, z3⟩
    · rw [z1] at ed
      rw [z2]
      subst ed
      exact q _ _ _ R2 (Same.refl _) rz
    · rw [z1] at ed
      rw [z2]
      subst ed
      exact q _ _ _ R2 (Same.refl _) z3
  · exact h.elim
/-- d[k] = v -/
def isM (i : Nat) (δ : SS) : Bool := match δ[i]? with
  | some (some (.o (.m _))) => true
  | _ => false
def gSetK (i : Nat) (gv gi : SS → R D) : SS → R Fl := fun δ => (gv δ).bind fun v δ1 => if isM i δ1 = true then (gi δ1).bind fun y δ2 => match δ2[i]?, keyP y with
    | some (some (.o (.m kvs))), some k => if kvs.length < sizeLine then .ok .nx (δ2.set i (some (.o (.m (putD kvs k v))))) else .bad
    | _, _ => .bad
  else .bad
theorem st_setK (i : Nat) {x : Str} {k : Expr} {gk : SS → R D} {pn : Pos} (hu : X.A.units + 64 < cLine) (h : EV X S W e ga) (hk : EV X S W k gk) (hN : X.N[i]? = some x := by rfl) (hv : Vis X.env.scope x := by first | exact Or.inl rfl | exact Or.inr (Or.inl rfl) | exact Or.inr (Or.inr rfl)) (hd : (x == ("__debug__" : Str)) = false := by decide)
    (hcd : (x == ("__classdict__" : Str)) = false := by decide) (hs : swapsWith e (some (.Subscript (.Name x pn) k pos2)) pos.line X.env = pure false := by rfl) : ST X S W (.Assign [.Subscript (.Name x pn) k pos2] e pos) (gSetK i ga gk) := by
  obtain ⟨t, p, q⟩ := h
  obtain ⟨t2, p2, q2⟩ := hk
  refine ⟨_, ps_dput (by omega) (pe_var hN hv hd hcd) p2 p hs, fun Y A σ H δ F E hl Rl h => q _ _ _ _ _ _ _ Rl (RunS.bind h fun x δ1 v H1 F1 _ R1 s1 rx g1 => ?_)⟩
  by_cases hi : isM i δ1 = true
  · rw [if_pos hi] at g1
    obtain ⟨ys, ey⟩ : ∃ ys, δ1[i]? = some (some (.o (.m ys))) := by
      unfold isM at hi
      split at hi
      · rename_i xs e
        exact ⟨xs, e⟩
      · cases hi
    obtain ⟨o, k1, k2, k3⟩ := R1.own_at ey
    refine ⟨_, k1, q2 _ _ _ _ _ _ _ R1 (RunS.bind g1 fun y δ2 w H2 F2 _ R2 s2 ry g2 => ?_)⟩
    split at g2
    · rename_i kvs k ez ek
      split at g2
      · rename_i hz
        obtain ⟨o', m1, m2, m3⟩ := R2.own_at ez
        cases m3 with
        | m r =>
          rw [rp_key ry ek]
          exact ⟨_, _, rfl, .inl ⟨_, k, m2, rfl, by rw [r.length]; exact hz, rfl⟩, g2 _ _ _ _ (R2.wr ez (.m (r.put k (rx.mono s2)))) (Same.refl _)⟩
      · exact g2.elim
    · exact g2.elim
  · rw [if_neg hi] at g1
    exact g1.elim
/-! sorted(d), keys texts -/
def keyS : D → Option Str
  | .str z => some z
  | _ => none
def keysS : List (D × D) → Option (List Str)
  | [] => some []
  | kv :: r => (keyS kv.1).bind fun z => (keysS r).map (z :: ·)
theorem keysS_some : ∀ {kvs : List (D × D)} {zs : List Str}, keysS kvs = some zs → kvs.map (·.1) = zs.map .str
  | [], _, h => by
    cases h
    rfl
  | kv :: r, zs, h => by
    obtain ⟨z, h1, h2⟩ := Option.bind_eq_some_iff.mp h
    obtain ⟨ys, h3, rfl⟩ := Option.map_eq_some_iff.mp h2
    rw [List.map_cons, List.map_cons, keysS_some h3]
    congr 1
    cases hk : kv.1 <;> rw [hk] at h1 <;> simp [keyS] at h1
    rw [h1]
def leS (a b : Str) : Bool := decide (a.cps.toList ≤ b.cps.toList)
def sortS (zs : List Str) : List Str := zs.mergeSort leS
theorem leS_trans (a b c : Str) (h1 : leS a b = true) (h2 : leS b c = true) : leS a c = true := by
  unfold leS at *
  simp only [decide_eq_true_eq] at *
  exact List.le_trans h1 h2
theorem leS_total (a b : Str) : (leS a b || leS b a) = true := by
  unfold leS
  simp only [Bool.or_eq_true, decide_eq_true_eq]
  exact List.le_total _ _
theorem leS_anti {a b : Str} (h1 : leS a b = true) (h2 : leS b a = true) : a = b := by
  unfold leS at *
  simp only [decide_eq_true_eq] at *
  exact PySem.W.str_of_cps (List.le_antisymm h1 h2)
theorem rising_le : ∀ {r : List Str} {p : Str}, risingS p r = true → (p :: r).Pairwise fun a b => leS a b = true
  | [], p, _ => by simp
  | x :: r, p, h => by
    unfold risingS at h
    simp only [Bool.and_eq_true] at h
    have ih := rising_le h.2
    have h1 : leS p x = true := by
      have := h.1
      unfold leS
      rw [PyProof.Rows.ltCps_eq] at this
      simp only [Bool.not_eq_true', decide_eq_false_iff_not] at this
      exact decide_eq_true (List.not_lt.mp this)
    refine List.pairwise_cons.mpr ⟨fun b hb => ?_, ih⟩
    rcases List.mem_cons.mp hb with rfl | hb
    · exact h1
    · exact leS_trans _ _ _ h1 ((List.pairwise_cons.mp ih).1 b hb)
theorem sorted_eq {ys ks : List Str} (hp : ys.Perm ks) (h : sortedS ys = true) : ys = sortS ks := by
  have h1 : ys.Pairwise fun a b => leS a b = true := by
    cases ys with
    | nil => exact .nil
    | cons y ys => exact rising_le h
  exact List.Perm.eq_of_pairwise (le := fun a b => leS a b = true) (fun a b _ _ x y => leS_anti x y) h1 (List.pairwise_mergeSort leS_trans leS_total ks) (hp.trans (List.mergeSort_perm ks leS).symm)
def cSortedK : D → Option OC
  | .dict kvs => (keysS kvs).bind fun zs => if zs.length < 64 then some (.l ((sortS zs).map .str)) else none
  | _ => none
theorem RdP.dct {K : Frg} {F H : Hp} {kvs : List (D × D)} {v : V} (h : RdP K F H (.dict kvs) v) (e : Same F H) : ∃ a ws, v = .ref a ∧ H a = some (.dK ws) ∧ Rpk K F kvs ws := by
  rcases h with h | ⟨a, o, c, rfl, h1, h2, h3⟩
  · cases h with
    | dct h r => exact ⟨_, _, rfl, e _ _ h, r⟩
  · cases h2 with
    | l r => simp [OC.toD] at h3
    | m r =>
      simp only [OC.toD, PyData.dict.injEq] at h3
      subst h3
      exact ⟨a, _, rfl, h1, r⟩
theorem keyD_str {k : Key} {z : Str} (h : keyD k = .str z) : k = .inr z := by
  cases k with
  | inl i => cases h
  | inr y =>
    cases h
    rfl
theorem keys_inr : ∀ {ws : List (Key × V)} {zs : List Str}, (ws.map fun w => keyD w.1) = zs.map PyData.str → ws.map (·.1) = zs.map Sum.inr
  | [], [], _ => rfl
  | [], _ :: _, h => by cases h
  | _ :: _, [], h => by cases h
  | w :: ws, z :: zs, h => by
    rw [List.map_cons, List.map_cons] at h
    injection h with h1 h2
    rw [List.map_cons, List.map_cons, keys_inr h2, keyD_str h1]
theorem new_sortedK : C1New X S (fun xs H Q => ∃ (a : Addr) (kvs : List (Key × V)) (ks : List Str), xs = [.ref a] ∧ Rd H a (.dK kvs) ∧ kvs.map (·.1) = ks.map Sum.inr ∧ ks.length < 64 ∧
    ∀ ys p, ys.Perm ks → sortedS ys = true → H p = none → Q (.ref p) (upd H p (.lst (ys.map V.str)))) cSortedK := fun Y A σ H δ F v x d Q Rl rx e q => by
  cases x <;> simp only [cSortedK] at e <;> try (cases e)
  rename_i kvs
  obtain ⟨zs, h1, h2⟩ := Option.bind_eq_some_iff.mp e
  split at h2
  · rename_i hz
    cases h2
    obtain ⟨a, ws, rfl, k1, k2⟩ := rx.dct Rl.sub
    refine ⟨a, ws, zs, rfl, .inl k1, keys_inr (by rw [← k2.keys]; exact keysS_some h1), hz, fun ys p hp hs hf => ?_⟩
    have e := sorted_eq hp hs
    subst e
    have fr := Rl.fresh hf
    have rs : ∀ zs : List Str, Rps X.K F (zs.map PyData.str) (zs.map V.str) := fun zs => by
      induction zs with
      | nil => exact .nil
      | cons z zs ih => exact .cons (.str z) ih
    exact q _ _ (Rl.laid hf) ⟨p, _, rfl, upd_same, .l (rs _), ⟨fr.f, fr.h0, fr.ne⟩⟩
  · cases h2
end
/-! ### a dict walked by its keys -/
section
variable {K : Frg} {S : Sx} {Y : Dy} {F : Hp} {A : Nat → Addr} {H : Hp} {σ : L2.St} {δ : SS}
theorem Rpk.get {K : Frg} {F : Hp} : ∀ {kvs : List (D × D)} {ws : List (Key × V)} {i : Nat} {kv : D × D}, Rpk K F kvs ws → kvs[i]? = some kv → ∃ k v, ws[i]? = some (k, v) ∧ kv.1 = keyD k ∧ Rp K F kv.2 v
  | _, _, _, _, .nil, h => by simp at h
  | _, _, 0, _, .cons (k := k) (v := v) r _, h => by
    have e := Option.some.inj h
    subst e
    exact ⟨k, v, rfl, rfl, r⟩
  | _, _, i + 1, _, .cons _ t, h => Rpk.get (i := i) t h
/-- a fresh dict is written -/
theorem Rel.wrFM (Rl : Rel K S Y F A H σ δ) {p : Addr} {xs : List (Key × V)} {o : HO} (fr : Fresh S Y F A H δ p) (hp : H p = some (.dK xs)) : Rel K S Y F A (upd H p o) σ δ := by
  refine ⟨fun b u q => ?_, Rl.ntb, Rl.grow, Rl.frs, ⟨fun b u q n t => ?_, fun b q => ?_⟩, fun q hq => ?_, Rl.len, fun i x h => ?_, Rl.own, Rl.inj, Rl.pin, Rl.oadr, Rl.opar⟩
  · rw [upd_ne (ne_of_none q fr.f)]
    exact Rl.sub b u q
  · rw [upd_ne fun z => by
      obtain ⟨ps, y⟩ := fr.h0 u (by rw [← z]; exact q)
      exact t ps y]
    exact Rl.kp.keep b u q n t
  · by_cases e : b = p
    · rw [e]
      exact fr.h0
    · exact Rl.kp.dom b fun o z => q o (by rw [upd_ne e]; exact z)
  · obtain ⟨ps, h1, h2, h3⟩ := Rl.tabs q hq
    refine ⟨ps, by rw [upd_ne (ne_of h1 hp fun z => nomatch z)]; exact h1, h2, fun pos cv hc => ?_⟩
    obtain ⟨cc, e1, e2⟩ := h3 pos cv hc
    exact ⟨cc, e1, by rw [upd_ne (ne_of e2 hp fun z => by cases z)]; exact e2⟩
  · obtain ⟨v, h1, h2⟩ := Rl.slot i x h
    refine ⟨v, h1, h2.mono (Same.refl F) (fun c u e q => ?_) fun b od ws q => ?_⟩
    · subst e
      rw [upd_ne (fr.ne i c h)]
      exact q
    · rw [upd_ne (ne_of q hp fun z => nomatch z)]
      exact q
/-- an own dict is locked: behind it a block of its own -/
theorem Rel.lock (Rl : Rel K S Y F A H σ δ) {i : Nat} {kvs : List (D × D)} {ws : List (Key × V)} {od : Obj} (h : δ[i]? = some (some (.o (.m kvs)))) (hH : H (A i) = some (.dK ws)) (r : Rpk K F kvs ws) {n : Nat} (hn : δ.length ≤ n) :
    Rel K ⟨S.T, n⟩ (innerY F (upd H (A i) (.frz od (.dK ws))) A (δ.set i (some (.f kvs)))) F A (upd H (A i) (.frz od (.dK ws))) σ (δ.set i (some (.f kvs))) := by
  obtain ⟨o, hσ, hH2, hr⟩ := Rl.own_at h
  obtain ⟨hF, hown⟩ := Rl.own i _ h
  have other : ∀ {j c}, (δ.set i (some (.f kvs)))[j]? = some (some (.o c)) → j ≠ i ∧ δ[j]? = some (some (.o c)) := fun {j c} hj => by
    rcases set_some hj with ⟨_, e, _⟩ | h
    · cases e
    · exact h
  refine ⟨fun b u q => ?_, Rl.ntb, Same.refl F, fun b q => .inl q, Kp.refl _ _ _, fun p hp => ?_, by simpa using Rl.len, fun j x hx => ?_, fun j c hj => ⟨(Rl.own j c (other hj).2).1, .inl ?_⟩, fun j k c c' h1 h2 => Rl.inj j k c c' (other h1).2 (other h2).2, fun _ _ => rfl, fun j c _ hj => ⟨j, c, hj, rfl⟩, fun a ⟨j, c, hj, e⟩ => ?_⟩
  · rw [upd_ne (ne_of_none q hF)]
    exact Rl.sub b u q
  · obtain ⟨ps, h1, h2, h3⟩ := Rl.tabs p hp
    refine ⟨ps, by rw [upd_ne (ne_of h1 hH fun z => nomatch z)]; exact h1, h2, fun pos cv hc => ?_⟩
    obtain ⟨cc, e1, e2⟩ := h3 pos cv hc
    exact ⟨cc, e1, by rw [upd_ne (ne_of e2 hH fun z => by cases z)]; exact e2⟩
  · rcases set_some hx with ⟨rfl, rfl, _⟩ | ⟨ne, hx⟩
    · exact ⟨_, hσ, A j, od, ws, rfl, upd_same, r⟩
    · obtain ⟨v, h1, h2⟩ := Rl.slot j x hx
      refine ⟨v, h1, h2.mono (Same.refl F) (fun c u e q => ?_) fun b od ws q => ?_⟩
      · subst e
        rw [upd_ne fun z => ne (Rl.inj j i _ _ hx h z)]
        exact q
      · rw [upd_ne (ne_of q hH fun z => nomatch z)]
        exact q
  · have := (List.getElem?_eq_some_iff.mp hj).1
    rw [List.length_set] at this
    exact Nat.lt_of_lt_of_le this hn
  · rw [← e]
    exact (Rl.own j c (other hj).2).1
/-- .. and unlocked -/
theorem Rel.unlock (Rl : Rel K S Y F A H σ δ) {i : Nat} {kvs : List (D × D)} {ws : List (Key × V)} {od : Obj} (h : δ[i]? = some (some (.o (.m kvs)))) (hH : H (A i) = some (.dK ws)) (r : Rpk K F kvs ws) {n : Nat} (hn : δ.length ≤ n) {F' H' : Hp} {A' : Nat → Addr} {σ' : L2.St} {δ' : SS}
    (Ri : Rel K ⟨S.T, n⟩ (innerY F (upd H (A i) (.frz od (.dK ws))) A (δ.set i (some (.f kvs)))) F' A' H' σ' δ') : H' (A i) = some (.frz od (.dK ws)) ∧ Rel K S Y F' A (upd H' (A i) (.dK ws)) σ ((mergeD (δ.set i (some (.f kvs))) δ').set i (some (.o (.m kvs)))) := by
  obtain ⟨o, hσ, hH2, hr⟩ := Rl.own_at h
  obtain ⟨hF, hown⟩ := Rl.own i _ h
  have hil : i < δ.length := (List.getElem?_eq_some_iff.mp h).1
  have other : ∀ {j c}, (δ.set i (some (.f kvs)))[j]? = some (some (.o c)) → j ≠ i ∧ δ[j]? = some (some (.o c)) := fun {j c} hj => by
    rcases set_some hj with ⟨_, e, _⟩ | h
    · cases e
    · exact h
  have nI : ¬ ownSet A (δ.set i (some (.f kvs))) (A i) := fun ⟨j, c, h1, h2⟩ => (other h1).1 (Rl.inj j i _ _ (other h1).2 h h2)
  have k1 : H' (A i) = some (.frz od (.dK ws)) := Ri.kp.keep (A i) _ upd_same nI fun ps z => nomatch z
  have k2 : F' (A i) = none := by
    cases hq : F' (A i) with
    | none => rfl
    | some u =>
      rcases Ri.frs (A i) (by rw [hq]; simp) with z | z
      · exact absurd hF z
      · obtain ⟨ps, y⟩ := (show NT (upd H (A i) (.frz od (.dK ws))) (A i) from z) _ upd_same
        cases y
  have pin : ∀ {j : Nat} {x : SV}, δ[j]? = some (some x) → A' j = A j := fun {j x} h => Ri.pin j (Nat.lt_of_lt_of_le (List.getElem?_eq_some_iff.mp h).1 hn)
  have oo : ∀ {j : Nat} {c : OC}, j ≠ i → (mergeD (δ.set i (some (.f kvs))) δ')[j]? = some (some (.o c)) → (∃ c0, δ[j]? = some (some (.o c0))) ∧ δ'[j]? = some (some (.o c)) := fun {j c} ne h => by
    obtain ⟨a, h1, h2⟩ := mergeD_some h
    rw [List.getElem?_set_ne (Ne.symm ne)] at h1
    rcases h2 with ⟨c0, c', rfl, e, h3⟩ | ⟨e, h3⟩
    · cases e
      exact ⟨⟨c0, h1⟩, h3⟩
    · exact absurd e.symm (h3 c)
  have R2 : Rel K S Y F' A (upd H' (A i) (.dK ws)) σ ((mergeD (δ.set i (some (.f kvs))) δ').set i (some (.o (.m kvs)))) := by
    refine ⟨fun b u q => ?_, Ri.ntb, Rl.grow.trans Ri.grow, fun b q => ?_, ⟨fun b o q nO nt => ?_, fun b q => ?_⟩, fun p hp => ?_, by simpa [mergeD_length] using Rl.len, fun j x hx => ?_, fun j c hj => ?_, fun j k c c' h1 h2 e => ?_, Rl.pin, fun j c hj h2 => ?_, Rl.opar⟩
    · rw [upd_ne (ne_of_none q k2)]
      exact Ri.sub b u q
    · rcases Ri.frs b q with z | z
      · exact Rl.frs b z
      · refine .inr (Rl.kp.dom b fun o w => ?_)
        by_cases e : b = A i
        · rw [e] at q
          exact absurd k2 q
        · exact z o (by show upd H (A i) _ b = _; rw [upd_ne e]; exact w)
    · have ne : b ≠ A i := fun e => by
        rcases hown with z | z
        · exact nO (by rw [e]; exact Rl.oadr i _ z h)
        · obtain ⟨ps, y⟩ := z o (by rw [← e]; exact q)
          exact nt ps y
      rw [upd_ne ne]
      refine Ri.kp.keep b o (by show upd H (A i) _ b = _; rw [upd_ne ne]; exact Rl.kp.keep b o q nO nt) (fun ⟨j, c, h1, h2⟩ => ?_) nt
      have h1' := (other h1).2
      rcases (Rl.own j c h1').2 with z | z
      · exact nO (by rw [← h2]; exact Rl.oadr j c z h1')
      · obtain ⟨ps, y⟩ := z o (by rw [h2]; exact q)
        exact nt ps y
    · by_cases e : b = A i
      · obtain ⟨ps, y⟩ := q (.dK ws) (by rw [e, upd_same])
        cases y
      · have q1 : NT H' b := fun o z => q o (by rw [upd_ne e]; exact z)
        refine Rl.kp.dom b fun o z => Ri.kp.dom b q1 o ?_
        show upd H (A i) _ b = _
        rw [upd_ne e]
        exact z
    · obtain ⟨ps, h1, h2, h3⟩ := Ri.tabs p hp
      refine ⟨ps, by rw [upd_ne (ne_of h1 k1 fun z => nomatch z)]; exact h1, h2, fun pos cv hc => ?_⟩
      obtain ⟨cc, e1, e2⟩ := h3 pos cv hc
      exact ⟨cc, e1, by rw [upd_ne (ne_of e2 k1 fun z => by cases z)]; exact e2⟩
    · rcases set_some hx with ⟨rfl, rfl, _⟩ | ⟨ne, hx⟩
      · exact ⟨_, hσ, rfl, _, upd_same, .m (Rpk.mono Ri.grow r)⟩
      · obtain ⟨a, h1, h2⟩ := mergeD_some hx
        rw [List.getElem?_set_ne (Ne.symm ne)] at h1
        rcases h2 with ⟨c0, c', rfl, rfl, h3⟩ | ⟨rfl, h3⟩
        · obtain ⟨o, g1, _, _⟩ := Rl.own_at h1
          obtain ⟨o', _, g2, g3⟩ := Ri.own_at h3
          rw [pin h1] at g2
          have nA : A j ≠ A i := fun z => ne (Rl.inj j i _ _ h1 h z)
          exact ⟨_, g1, rfl, o', by rw [upd_ne nA]; exact g2, g3⟩
        · obtain ⟨v, g1, g2⟩ := Rl.slot j _ h1
          refine ⟨v, g1, g2.mono Ri.grow (fun c o e q => absurd e (h3 c)) fun b od2 ws2 q => ?_⟩
          have nb : b ≠ A i := ne_of q hH fun z => nomatch z
          rw [upd_ne nb]
          refine Ri.kp.keep b _ (by show upd H (A i) _ b = _; rw [upd_ne nb]; exact q) (fun ⟨j, c, k1, k2⟩ => ?_) fun ps z => nomatch z
          obtain ⟨o, _, k3, k4⟩ := Rl.own_at (other k1).2
          rw [k2, q] at k3
          cases k3
          cases k4
    · rcases set_some hj with ⟨rfl, _, _⟩ | ⟨ne, hj⟩
      · exact ⟨k2, hown⟩
      · obtain ⟨⟨c0, g1⟩, g2⟩ := oo ne hj
        have g := (Ri.own j c g2).1
        rw [pin g1] at g
        exact ⟨g, (Rl.own j c0 g1).2⟩
    · have q : ∀ {j : Nat} {c : OC}, ((mergeD (δ.set i (some (.f kvs))) δ').set i (some (.o (.m kvs))))[j]? = some (some (.o c)) → ∃ c0 : OC, δ[j]? = some (some (.o c0)) := fun {j c} hj => by
        rcases set_some hj with ⟨rfl, _, _⟩ | ⟨ne, hj⟩
        · exact ⟨_, h⟩
        · exact (oo ne hj).1
      obtain ⟨c0, g1⟩ := q h1
      obtain ⟨c1, g2⟩ := q h2
      exact Rl.inj j k _ _ g1 g2 e
    · rcases set_some h2 with ⟨rfl, _, _⟩ | ⟨ne, h2⟩
      · exact Rl.oadr _ _ hj h
      · obtain ⟨⟨c0, g1⟩, _⟩ := oo ne h2
        exact Rl.oadr j c0 hj g1
  exact ⟨k1, R2⟩
end
section
variable {X : Cx} {S : Sx} {W : WX} {a b c e tg : Expr} {es : List Expr} {pos pos2 p : Pos} {ga gb gc : SS → R D} {n : Nat}
/-- an expression that walks the own dict in slot i -/
def gLk (i : Nat) (g : SS → R OC) : SS → R OC := fun δ => match δ[i]? with
  | some (some (.o (.m kvs))) => (match g (δ.set i (some (.f kvs))) with
    | .ok c δ1 => .ok c ((mergeD (δ.set i (some (.f kvs))) δ1).set i (some (.o (.m kvs))))
    | _ => .bad)
  | _ => .bad
theorem eo_lock (i : Nat) {g : SS → R OC} (hn : X.N.length = n) (h : EO X ⟨S.T, n⟩ W e g) : EO X S W e (gLk i g) := by
  obtain ⟨t, pe, q⟩ := h
  refine ⟨fun σ H Q => ∃ Y A δ F, Rel X.K S Y F A H σ δ ∧ Run X.K X.mg S Y A σ W (ρO X.K S Y A) F (gLk i g δ) Q, pe_len (pe_lock pe) fun σ H Q hl hw => ?_, fun Y A σ H δ F Q Rl hr => ⟨Y, A, δ, F, Rl, hr⟩⟩
  obtain ⟨Y, A, δ, F, Rl, hr⟩ := hw
  have hdl : δ.length ≤ n := by
    rw [← Rl.len, hl, hn]
    exact Nat.le_refl n
  unfold gLk at hr
  split at hr
  case h_2 => exact hr.elim
  rename_i kvs h0
  obtain ⟨o, hσ, hH, ho⟩ := Rl.own_at h0
  cases ho with
  | @m _ ws r =>
    refine ⟨A i, .dK ws, hH, True.intro, fun od => q _ _ _ _ _ _ _ (Rl.lock h0 hH r hdl) ?_⟩
    cases eg : g (δ.set i (some (.f kvs))) with
    | bad =>
      rw [eg] at hr
      exact hr.elim
    | ex c f x δ1 =>
      rw [eg] at hr
      exact hr.elim
    | ok c δ1 =>
      rw [eg] at hr
      intro v H' F' R' s' ⟨p, o, e1, e2, r2, fr⟩
      obtain ⟨k1, R2⟩ := Rl.unlock h0 hH r hdl R'
      have np : p ≠ A i := fun z => by
        rw [z, k1] at e2
        cases e2
        cases r2
      refine ⟨k1, hr v _ F' R2 s' ⟨p, o, e1, by rw [upd_ne np]; exact e2, r2, fr.f, Rl.kp.dom p fun o z => fr.h0 o (by show upd H (A i) _ p = _; rw [upd_ne np]; exact z), fun j c hj => ?_⟩⟩
      rcases set_some hj with ⟨rfl, _, _⟩ | ⟨ne, hj⟩
      · exact fun z => np z.symm
      · obtain ⟨a, h1, h2⟩ := mergeD_some hj
        rcases h2 with ⟨c0, c', rfl, e, h3⟩ | ⟨e, h3⟩
        · exact fr.ne j _ h3
        · exact absurd e.symm (h3 c)
def gKeysF (i : Nat) : SS → R (List D) := fun δ => match δ[i]? with
  | some (some (.f kvs)) => .ok (kvs.map (·.1)) δ
  | _ => .bad
theorem ivp_keys (i : Nat) {x : Str} (hN : X.N[i]? = some x := by rfl) (hv : Vis X.env.scope x := by first | exact Or.inl rfl | exact Or.inr (Or.inl rfl) | exact Or.inr (Or.inr rfl)) (hd : (x == ("__debug__" : Str)) = false := by decide)
    (hcd : (x == ("__classdict__" : Str)) = false := by decide) : IVP X S W tg (.Name x p) (gKeysF i) := by
  refine ⟨_, pi_keys (pe_var hN hv hd hcd), fun Y A σ H δ F Q Rl h => ?_⟩
  unfold gKeysF at h
  split at h
  · rename_i kvs e
    obtain ⟨v, h1, b, od, ws, rfl, h2, r⟩ := Rl.slot i _ e
    refine ⟨_, h1, b, od, rfl, .inl ⟨ws, h2, opt_run h Rl ⟨fun a u => a = b ∧ u = .frz od (.dK ws), fun a u ⟨e1, e2⟩ => ?_, fun S Y A σ δ H F' j R1 s1 hp => ⟨fun d hd => ?_, fun hl => ?_⟩⟩⟩⟩
    · subst e1 e2
      exact ⟨h2, od, ws, rfl⟩
    · rw [List.getElem?_map] at hd
      cases hk : kvs[j]? with
      | none =>
        rw [hk] at hd
        cases hd
      | some kv =>
        rw [hk] at hd
        cases hd
        obtain ⟨k, v, g1, g2, g3⟩ := r.get hk
        refine ⟨⟨hp _ _ ⟨rfl, rfl⟩, (List.getElem?_eq_some_iff.mp g1).1⟩, fun x H' ⟨e1, k', v', e2, e3⟩ => ?_⟩
        subst e1 e3
        rw [g1] at e2
        cases e2
        refine ⟨F', R1, Same.refl _, ?_⟩
        show Rp X.K F' kv.1 (kV k)
        rw [g2]
        exact rp_keyD _
    · rw [List.length_map] at hl
      exact ⟨hp _ _ ⟨rfl, rfl⟩, by rw [r.length]; exact hl⟩
  · exact h.elim
end
/-! ### dict comprehensions -/
def dcLoop (vs : List Nat) (tg : D → SS → Option SS) (tt : SS → R Bool) (tk tv : SS → R D) : List D → List (D × D) → SS → R OC
  | [], ys, δ => .ok (.m ys) δ
  | d :: ds, ys, δ => match tg d (wipeD δ vs) with
    | none => .bad
    | some δ1 => match tt δ1 with
      | .ok true δ2 => (match tk δ2 with
        | .ok y δ3 => (match tv δ3 with
          | .ok z δ4 => (match keyP y with
            | some k => if ys.length < sizeLine then dcLoop vs tg tt tk tv ds (putD ys k z) (mergeD δ δ4) else .bad
            | none => .bad)
          | _ => .bad)
        | _ => .bad)
      | .ok false δ2 => dcLoop vs tg tt tk tv ds ys (mergeD δ δ2)
      | _ => .bad
def gDc (vs : List Nat) (src : SS → R (List D)) (tg : D → SS → Option SS) (tt : SS → R Bool) (tk tv : SS → R D) : SS → R OC := fun δ => (src δ).bind fun items δ1 => dcLoop vs tg tt tk tv items [] δ1
section
variable {X : Cx} {S : Sx} {W : WX} {n : Nat} {vs : List Nat} {src : SS → R (List D)} {ftg : D → SS → Option SS} {gt : SS → R Bool} {gk ge : SS → R D}
/-- the reading of a comprehension -/
theorem dc_run {wi : TI} (hn : n = X.N.length)
    (qi : ∀ Y A σ H δ F Q, Rel X.K S Y F A H σ δ → Run X.K X.mg S Y A σ W (fun F' H' _ items J => ItOkP X.K J items F' H') F (src δ) Q → wi σ H Q) :
    ∀ Y A σ H δ F Q, σ.length = n → Rel X.K S Y F A H σ δ → Run X.K X.mg S Y A σ W (ρO X.K S Y A) F (gDc vs src ftg gt gk ge δ) Q →
      tDc wi (tEG X.K ⟨S.T, n⟩ vs ftg) (tTV X.K X.mg ⟨S.T, n⟩ W0 gt) (tEV X.K X.mg ⟨S.T, n⟩ W0 gk) (tEV X.K X.mg ⟨S.T, n⟩ W0 ge) vs σ H Q := fun Y A σ H δ F Q hσ Rl hr => by
  refine qi _ _ _ _ _ _ _ Rl (Run.bind hr fun items δ1 J H1 F1 _ R1 s1 ok h1 => ?_)
  intro p hD
  obtain ⟨P, hP, ok⟩ := ok
  have fr := R1.fresh hD
  have pinU : ∀ {H2 H5 : Hp} {δ2 : SS} {F2 F5 : Hp} {σ5 : L2.St} {δ5 : SS}, Rel X.K S Y F2 A H2 σ δ2 → (∀ b u, P b u → H2 b = some u) → Rel X.K ⟨S.T, n⟩ (innerY F2 H2 A (wipeD δ2 vs)) F5 A H5 σ5 δ5 → ∀ b u, P b u → H5 b = some u := fun {H2 H5 δ2 F2 F5 σ5 δ5} R2 hp R5 b u hb => by
    obtain ⟨_, od, ws, rfl⟩ := hP b u hb
    refine R5.kp.keep b _ (hp b _ hb) (fun ⟨j, c, g1, g2⟩ => ?_) fun ps z => nomatch z
    obtain ⟨o, _, k3, k4⟩ := R2.own_at (wipeD_some g1).1
    rw [g2, hp b _ hb] at k3
    cases k3
    cases k4
  have pinD : ∀ {H5 : Hp} {xs ys : List (Key × V)}, (∀ b u, P b u → H5 b = some u) → H5 p = some (.dK xs) → ∀ b u, P b u → upd H5 p (.dK ys) b = some u := fun {H5 xs ys} hp h5 b u hb => by
    obtain ⟨_, od, ws, rfl⟩ := hP b u hb
    rw [upd_ne fun z => by
      have := hp b _ hb
      rw [z, h5] at this
      cases this]
    exact hp b _ hb
  refine ⟨fun i m H => m = items.length - i ∧ i ≤ items.length ∧ (∀ b u, P b u → H b = some u) ∧ ∃ F2 δ2 acc ys, Rel X.K S Y F2 A H σ δ2 ∧ Same F1 F2 ∧ H p = some (.dK acc) ∧ Rpk X.K F2 ys acc ∧ Fresh S Y F2 A H δ2 p ∧ Run X.K X.mg S Y A σ W (ρO X.K S Y A) F2 (dcLoop vs ftg gt gk ge (items.drop i) ys δ2) Q,
    ⟨_, rfl, Nat.zero_le _, fun b u hb => by
      rw [upd_ne (ne_of_none (hP b u hb).1 hD)]
      exact (hP b u hb).1, F1, δ1, [], [], R1.laid hD, Same.refl _, upd_same, .nil, ⟨fr.f, fr.h0, fr.ne⟩, h1⟩, ?_⟩
  rintro i m H2 ⟨rfl, hi, hp2, F2, δ2, acc, ys, R2, s2, hacc, rys, fr2, h2⟩
  have hlen : δ2.length = n := by rw [← R2.len]; exact hσ
  by_cases hlt : i < items.length
  · -- a turn
    obtain ⟨d, hd⟩ : ∃ d, items[i]? = some d := ⟨_, List.getElem?_eq_getElem hlt⟩
    have hdrop : items.drop i = d :: items.drop (i + 1) := by
      rw [List.drop_eq_getElem_cons hlt]
      rw [List.getElem?_eq_getElem hlt] at hd
      cases hd
      rfl
    rw [hdrop] at h2
    have Rw := R2.wipe vs
    have Ri := Rw.enter (n := n) (by rw [wipeD_length, hlen]; exact Nat.le_refl n)
    obtain ⟨go, yl⟩ := (ok _ _ _ _ _ _ _ i Ri s2 hp2).1 d hd
    refine .inr ⟨go, fun H' => ∃ m', m' < items.length - i ∧ m' = items.length - (i + 1) ∧ i + 1 ≤ items.length ∧ (∀ b u, P b u → H' b = some u) ∧ ∃ F2 δ2 acc ys, Rel X.K S Y F2 A H' σ δ2 ∧ Same F1 F2 ∧ H' p = some (.dK acc) ∧ Rpk X.K F2 ys acc ∧ Fresh S Y F2 A H' δ2 p ∧ Run X.K X.mg S Y A σ W (ρO X.K S Y A) F2 (dcLoop vs ftg gt gk ge (items.drop (i + 1)) ys δ2) Q,
      fun H' ⟨m', q1, q2, q3, q4⟩ => ⟨m', q1, q2, q3, q4⟩, fun x H3 hy => ?_⟩
    obtain ⟨F3, R3, s3, rx⟩ := yl x H3 hy
    unfold dcLoop at h2
    cases etg : ftg d (wipeD δ2 vs) with
    | none =>
      rw [etg] at h2
      exact h2.elim
    | some δ3 =>
      rw [etg] at h2
      dsimp only at h2
      -- what a turn's end is
      have fin : ∀ {F5 H5 : Hp} {δ5 : SS} {σ5 : L2.St} {zs : List (D × D)} {ac : List (Key × V)} {o : List (Key × V)}, Rel X.K ⟨S.T, n⟩ (innerY F2 H2 A (wipeD δ2 vs)) F5 A H5 σ5 δ5 → Same F2 F5 → Rpk X.K F5 zs ac → Run X.K X.mg S Y A σ W (ρO X.K S Y A) F5 (dcLoop vs ftg gt gk ge (items.drop (i + 1)) zs (mergeD δ2 δ5)) Q →
          H5 p = some (.dK o) → (∃ m', m' < items.length - i ∧ m' = items.length - (i + 1) ∧ i + 1 ≤ items.length ∧ (∀ b u, P b u → upd H5 p (.dK ac) b = some u) ∧ ∃ F2 δ2 acc ys, Rel X.K S Y F2 A (upd H5 p (.dK ac)) σ δ2 ∧ Same F1 F2 ∧ (upd H5 p (.dK ac)) p = some (.dK acc) ∧ Rpk X.K F2 ys acc ∧ Fresh S Y F2 A (upd H5 p (.dK ac)) δ2 p ∧ Run X.K X.mg S Y A σ W (ρO X.K S Y A) F2 (dcLoop vs ftg gt gk ge (items.drop (i + 1)) ys δ2) Q) := fun {F5 H5 δ5 σ5 zs ac o} R5 s5 rz hrun hD5 => by
        have RL := R2.leave (by rw [hlen]; exact Nat.le_refl n) R5
        have frD : Fresh S Y F5 A H5 (mergeD δ2 δ5) p := by
          refine ⟨?_, fr2.h0, fun j c hj => ?_⟩
          · cases hq : F5 p with
            | none => rfl
            | some u =>
              rcases R5.frs p (by rw [hq]; simp) with z | z
              · exact absurd fr2.f z
              · obtain ⟨ps, y⟩ := (show NT H2 p from z) _ hacc
                cases y
          · obtain ⟨a, g1, g2⟩ := mergeD_some hj
            rcases g2 with ⟨c0, c', rfl, _, _⟩ | ⟨e, g3⟩
            · exact fr2.ne j _ g1
            · exact absurd e.symm (g3 c)
        exact ⟨_, by omega, rfl, hlt, pinD (pinU R2 hp2 R5) hD5, F5, mergeD δ2 δ5, ac, zs, RL.wrFM frD hD5, s2.trans s5, upd_same, rz, ⟨frD.f, frD.h0, frD.ne⟩, hrun⟩
      have keepD : ∀ {F5 H5 : Hp} {δ5 : SS} {σ5 : L2.St}, Rel X.K ⟨S.T, n⟩ (innerY F2 H2 A (wipeD δ2 vs)) F5 A H5 σ5 δ5 → H5 p = some (.dK acc) := fun {F5 H5 δ5 σ5} R5 =>
        R5.kp.keep p _ hacc (fun ⟨j, c, g1, g2⟩ => fr2.ne j c (wipeD_some g1).1 g2) fun ps z => nomatch z
      refine ⟨_, _, _, _, d, δ3, R3, rx, etg, fun σ4 R4 l4 k4 => ⟨wipe_eq (l4.trans (wipe_length σ vs)) (fun j hj => (k4 j hj).trans (wipe_get hj)), ?_⟩⟩
      cases ett : gt δ3 with
      | bad =>
        rw [ett] at h2
        exact h2.elim
      | ex c f x δ4 =>
        rw [ett] at h2
        exact h2.elim
      | ok bb δ4 =>
        rw [ett] at h2
        refine ⟨_, _, _, _, R4, ?_⟩
        rw [ett]
        intro b2 H5 F5 R5 s5 eb
        have eb' : bb = b2 := eb
        subst eb'
        cases bb with
        | false =>
          refine iteF ?_
          have h2' : Run X.K X.mg S Y A σ W (ρO X.K S Y A) F2 (dcLoop vs ftg gt gk ge (items.drop (i + 1)) ys (mergeD δ2 δ4)) Q := h2
          have hD5 := keepD R5
          have z := fin R5 (s3.trans s5) (rys.mono (s3.trans s5)) (Run.weak h2' (s3.trans s5)) hD5
          have eu : upd H5 p (.dK acc) = H5 := by
            funext b
            unfold upd
            split
            · rename_i e
              rw [e, hD5]
            · rfl
          rw [eu] at z
          exact z
        | true =>
          refine iteT ?_
          cases etk : gk δ4 with
          | bad =>
            simp only [etk] at h2
            exact h2.elim
          | ex c f x δ5 =>
            simp only [etk] at h2
            exact h2.elim
          | ok y δ5 =>
            simp only [etk] at h2
            refine ⟨_, _, _, _, R5, ?_⟩
            rw [etk]
            intro w H6 F6 R6 s6 ry
            cases ete : ge δ5 with
            | bad =>
              simp only [ete] at h2
              exact h2.elim
            | ex c f x δ6 =>
              simp only [ete] at h2
              exact h2.elim
            | ok z δ6 =>
              simp only [ete] at h2
              cases ek : keyP y with
              | none =>
                simp only [ek] at h2
                exact h2.elim
              | some k =>
                simp only [ek] at h2
                by_cases hz : ys.length < sizeLine
                · rw [if_pos hz] at h2
                  refine ⟨_, _, _, _, R6, ?_⟩
                  rw [ete]
                  intro u H7 F7 R7 s7 rz
                  have hD7 := keepD R7
                  refine ⟨acc, k, rp_key ry ek, hD7, by rw [rys.length]; exact hz, ?_⟩
                  have st := ((s3.trans s5).trans s6).trans s7
                  exact fin R7 st ((rys.mono st).put k rz) (Run.weak h2 st) hD7
                · rw [if_neg hz] at h2
                  exact h2.elim
  · -- the end
    have e : i = items.length := by omega
    refine .inl ⟨(ok _ _ _ _ _ _ _ i R2 s2 hp2).2 (by omega), ?_⟩
    rw [e, List.drop_length] at h2
    exact h2 _ _ _ R2 (Same.refl _) ⟨p, _, rfl, hacc, .m rys, fr2⟩
variable {kx elt tg iter : Expr} {scope : Scope} {own : List (Str × Nat)} {pos : Pos}
theorem eo_dc {ifs : List Expr} (hc : X.calm = true) (hN : X.N.Nodup) (hn : X.N.length = n) (hi : IVP X S W tg iter src) (ok : BlkOk X.N X.env.scope scope own)
    (hg : ∀ (s : Shared) (H : Hp) (C : Addr) (cl : List (Str × Addr)) (fp : List Addr), GV (X.blk s H scope (compEnvC scope cl C X.env) fp) ⟨S.T, n⟩ (own.map (·.2)) tg ftg)
    (ht : ∀ (s : Shared) (H : Hp) (C : Addr) (cl : List (Str × Addr)) (fp : List Addr), PTV (X.blk s H scope (compEnvC scope cl C X.env) fp) ⟨S.T, n⟩ W0 ifs gt)
    (hk : ∀ (s : Shared) (H : Hp) (C : Addr) (cl : List (Str × Addr)) (fp : List Addr), EV (X.blk s H scope (compEnvC scope cl C X.env) fp) ⟨S.T, n⟩ W0 kx gk)
    (he : ∀ (s : Shared) (H : Hp) (C : Addr) (cl : List (Str × Addr)) (fp : List Addr), EV (X.blk s H scope (compEnvC scope cl C X.env) fp) ⟨S.T, n⟩ W0 elt ge) (hs : ∀ x, foldedSetIterable iter X.env x = pure x := by intro _; rfl) :
    EO X S W (.DictComp kx elt [⟨tg, iter, ifs, 0⟩] scope pos) (gDc (own.map (·.2)) src ftg gt gk ge) := by
  obtain ⟨wi, pi, qi⟩ := hi
  have P := pe_dc (pos := pos) (g := tEG X.K ⟨S.T, n⟩ (own.map (·.2)) ftg) (tt := tTV X.K X.mg ⟨S.T, n⟩ W0 gt) (tk := tEV X.K X.mg ⟨S.T, n⟩ W0 gk) (tv := tEV X.K X.mg ⟨S.T, n⟩ W0 ge) hc hN pi ok (fun s H C cl fp => gv_pg (hg s H C cl fp)) (fun s H C cl fp => ht s H C cl fp) (fun s H C cl fp => ev_pe (hk s H C cl fp)) (fun s H C cl fp => ev_pe (he s H C cl fp)) hs
  refine ⟨fun σ H Q => ∃ Y A δ F, Rel X.K S Y F A H σ δ ∧ Run X.K X.mg S Y A σ W (ρO X.K S Y A) F (gDc (own.map (·.2)) src ftg gt gk ge δ) Q, pe_len P fun σ H Q hl hw => ?_, fun Y A σ H δ F Q Rl hr => ⟨Y, A, δ, F, Rl, hr⟩⟩
  obtain ⟨Y, A, δ, F, Rl, hr⟩ := hw
  exact dc_run hn.symm qi Y A σ H δ F Q (hl.trans hn) Rl hr
/-! ### dicts compared -/
def flatEq : D → D → Bool
  | .none, .none => true
  | .bool a, .bool b => decide (a = b)
  | .int a, .int b => decide (a = b)
  | .str a, .str b => decide (a = b)
  | _, _ => false
def subM (xs ys : List (D × D)) : Bool := xs.all fun kv => match (keyP kv.1).bind (valD ys) with
  | some d => flatEq kv.2 d
  | none => false
/-- == where it is told: unlike many entries, or the same entries, values flat -/
def eqM (xs ys : List (D × D)) : Option Bool := if xs.length = ys.length then (if subM xs ys = true then some true else none) else some false
def dEqM : D → D → Option D
  | .dict xs, .dict ys => (eqM xs ys).map .bool
  | _, _ => none
def dNeM : D → D → Option D
  | .dict xs, .dict ys => (eqM xs ys).map fun b => .bool (!b)
  | _, _ => none
def rEqM (f : Bool → Bool) : R2 := fun x y H Q => ∃ a b ks ls e, x = .ref a ∧ y = .ref b ∧ H a = some (.dK ks) ∧ H b = some (.dK ls) ∧ ((ks.length ≠ ls.length ∧ e = false) ∨ (ks.length = ls.length ∧ (∀ p ∈ ks, valV ls p.1 = some p.2 ∧ flatB p.2 = true) ∧ e = true)) ∧ Q (.bl (f e)) H
theorem op_eqM (hu : X.A.units + 64 < cLine) : OpR X (compareOp .Eq) (rEqM id) := by
  intro pins s σ H x y v u Q I rx ry h
  obtain ⟨a, b, ks, ls, e, rfl, rfl, ea, eb, hp, q⟩ := h
  obtain rfl : v = Value.ref a := rx
  obtain rfl : u = Value.ref b := ry
  obtain ⟨_, ya, va, ra, da⟩ := (show ObjOk X.prog X.w H s.heap a (.dK ks) from I.hok a _ ea)
  obtain ⟨_, yb, vb, rb, db⟩ := (show ObjOk X.prog X.w H s.heap b (.dK ls) from I.hok b _ eb)
  rcases hp with ⟨hl, rfl⟩ | ⟨hl, hp, rfl⟩
  · have hl' : va.length ≠ vb.length := by rw [← ra.length, ← rb.length]; exact hl
    exact PySem.W.keq_eq (knd := mixKind X.prog X.w) (r := false) ya yb da db (by omega) (fun z => absurd z hl') (fin_bl I q (by simp))
  · have hl' : va.length = vb.length := by rw [← ra.length, ← rb.length]; exact hl
    exact PySem.W.keq_eq (knd := mixKind X.prog X.w) (r := true) ya yb da db (by omega) (fun _ => hits_all rb ra hp) (fin_bl I q (by simp [hl']))
theorem op_neM (hu : X.A.units + 64 < cLine) : OpR X (compareOp .NotEq) (rEqM (!·)) := by
  intro pins s σ H x y v u Q I rx ry h
  obtain ⟨a, b, ks, ls, e, rfl, rfl, ea, eb, hp, q⟩ := h
  obtain rfl : v = Value.ref a := rx
  obtain rfl : u = Value.ref b := ry
  obtain ⟨_, ya, va, ra, da⟩ := (show ObjOk X.prog X.w H s.heap a (.dK ks) from I.hok a _ ea)
  obtain ⟨_, yb, vb, rb, db⟩ := (show ObjOk X.prog X.w H s.heap b (.dK ls) from I.hok b _ eb)
  rcases hp with ⟨hl, rfl⟩ | ⟨hl, hp, rfl⟩
  · have hl' : va.length ≠ vb.length := by rw [← ra.length, ← rb.length]; exact hl
    exact PySem.W.keq_ne (knd := mixKind X.prog X.w) (r := false) ya yb da db (by omega) (fun z => absurd z hl') (fin_bl I q (by simp))
  · have hl' : va.length = vb.length := by rw [← ra.length, ← rb.length]; exact hl
    exact PySem.W.keq_ne (knd := mixKind X.prog X.w) (r := true) ya yb da db (by omega) (fun _ => hits_all rb ra hp) (fin_bl I q (by simp [hl']))
theorem flat_eq {K : Frg} {F F' : Hp} {d d' : D} {v v' : V} (h : flatEq d d' = true) (r : Rp K F d v) (r' : Rp K F' d' v') : v' = v ∧ flatB v = true := by
  cases r <;> cases r' <;> simp [flatEq] at h <;> first | (subst h; exact ⟨rfl, rfl⟩) | exact ⟨rfl, rfl⟩
theorem sub_vals {K : Frg} {F F' : Hp} {ys : List (D × D)} {ls : List (Key × V)} (rl : Rpk K F' ys ls) : ∀ {xs : List (D × D)} {ks : List (Key × V)}, Rpk K F xs ks → subM xs ys = true → ∀ p ∈ ks, valV ls p.1 = some p.2 ∧ flatB p.2 = true
  | _, _, .nil, _ => by simp
  | _, _, .cons (k := k) (d := d) (v := v) a t, h => by
    unfold subM at h
    rw [List.all_cons, Bool.and_eq_true] at h
    obtain ⟨h1, h2⟩ := h
    intro p hp
    rcases List.mem_cons.mp hp with rfl | hp
    · rw [show (keyP (keyD k, d).1).bind (valD ys) = valD ys k by show (keyP (keyD k)).bind _ = _; rw [keyP_D]; rfl] at h1
      rcases rl.val k with ⟨z, _⟩ | ⟨d', v', z1, z2, z3⟩
      · rw [z] at h1
        cases h1
      · rw [z1] at h1
        obtain ⟨e1, e2⟩ := flat_eq h1 a z3
        exact ⟨by rw [z2, e1], e2⟩
    · exact sub_vals rl t h2 p hp
theorem eqM_facts {K : Frg} {F F' : Hp} {xs ys : List (D × D)} {ks ls : List (Key × V)} {e : Bool} (h : eqM xs ys = some e) (r : Rpk K F xs ks) (rl : Rpk K F' ys ls) :
    (ks.length ≠ ls.length ∧ e = false) ∨ (ks.length = ls.length ∧ (∀ p ∈ ks, valV ls p.1 = some p.2 ∧ flatB p.2 = true) ∧ e = true) := by
  unfold eqM at h
  rw [r.length, rl.length]
  split at h
  · rename_i hl
    split at h
    · rename_i hs
      cases h
      exact .inr ⟨hl, sub_vals rl r hs, rfl⟩
    · cases h
  · rename_i hl
    cases h
    exact .inl ⟨hl, rfl⟩
theorem rd_eqM : OpRd X S (rEqM id) dEqM := fun Y A σ H δ F v u x y d Q Rl rx ry e q => by
  cases x <;> cases y <;> simp only [dEqM] at e <;> try (cases e)
  obtain ⟨b, e1, rfl⟩ := Option.map_eq_some_iff.mp e
  obtain ⟨a1, ks, rfl, h1, r1⟩ := rx.dct Rl.sub
  obtain ⟨a2, ls, rfl, h2, r2⟩ := ry.dct Rl.sub
  exact ⟨a1, a2, ks, ls, b, rfl, rfl, h1, h2, eqM_facts e1 r1 r2, q _ (.bl b)⟩
theorem rd_neM : OpRd X S (rEqM (!·)) dNeM := fun Y A σ H δ F v u x y d Q Rl rx ry e q => by
  cases x <;> cases y <;> simp only [dNeM] at e <;> try (cases e)
  obtain ⟨b, e1, rfl⟩ := Option.map_eq_some_iff.mp e
  obtain ⟨a1, ks, rfl, h1, r1⟩ := rx.dct Rl.sub
  obtain ⟨a2, ls, rfl, h2, r2⟩ := ry.dct Rl.sub
  exact ⟨a1, a2, ks, ls, b, rfl, rfl, h1, h2, eqM_facts e1 r1 r2, q _ (.bl _)⟩
/-! ### walked: a list or a tuple -/
def gItA (g : SS → R D) : SS → R (List D) := fun δ => (g δ).bind fun x δ1 => match x with
  | .tuple xs => .ok xs δ1
  | .list xs => .ok xs δ1
  | _ => .bad
theorem iv_any {e tg : Expr} {ga : SS → R D} (h : EV X S W e ga) : IV X S W tg e (gItA ga) := by
  obtain ⟨w1, p1, q1⟩ := iv_list (tg := tg) h
  obtain ⟨w2, p2, q2⟩ := iv_tup (tg := tg) h
  refine ⟨fun σ H R => w1 σ H R ∨ w2 σ H R, ⟨fun pins s σ H R I hw => hw.elim (p1.run pins s σ H R I) (p2.run pins s σ H R I)⟩, fun Y A σ H δ F Q Rl hr => ?_⟩
  unfold gItA at hr
  cases eg : ga δ with
  | bad =>
    rw [eg] at hr
    exact hr.elim
  | ex c f x δ1 =>
    refine .inl (q1 _ _ _ _ _ _ _ Rl ?_)
    unfold gItL
    rw [eg] at hr ⊢
    exact hr
  | ok x δ1 =>
    rw [eg] at hr
    cases x with
    | tuple xs =>
      refine .inr (q2 _ _ _ _ _ _ _ Rl ?_)
      unfold gItT
      rw [eg]
      exact hr
    | list xs =>
      refine .inl (q1 _ _ _ _ _ _ _ Rl ?_)
      unfold gItL
      rw [eg]
      exact hr
    | _ => exact hr.elim
/-! a sign in a text -/
def dInS : D → D → Option D
  | .str s, .str z => (match s.cps.toList with
    | [c] => some (.bool (decide (c ∈ z.cps.toList)))
    | _ => none)
  | _, _ => none
theorem rd_inS : OpRd X S (fun x y H Q => ∃ (c : Nat) (z : Str), x = .str ⟨#[c]⟩ ∧ y = .str z ∧ Q (.bl (decide (c ∈ z.cps.toList))) H) dInS := fun Y A σ H δ F v u x y d Q Rl rx ry e q => by
  cases x <;> cases y <;> simp only [dInS] at e <;> try (cases e)
  rename_i s z
  split at e
  · rename_i c hc
    cases e
    have e1 := rd_str rx
    have e2 := rd_str ry
    subst e1 e2
    have hs : s = ⟨#[c]⟩ := by
      cases s with
      | mk a =>
        have : a = #[c] := by
          apply Array.toList_inj.mp
          exact hc
        rw [this]
    exact ⟨c, z, by rw [hs], rfl, q _ (.bl _)⟩
  · cases e
end
section
variable {X : Cx} {S : Sx} {W : WX} {a b : Expr} {pos px py pt pt2 : Pos} {kt k2 n : Nat} {x y : Str} {gb : SS → R D}
theorem small2 {v u : V} : [v, u].length ≤ sizeLine := by
  rw [sizeLine_eq]
  simp
/-- a, b = e, f where a name is a cell: by way of a tuple -/
theorem st_parFc (i j : Nat) {go : SS → R OC} (hn : X.N.length = n) (hc : X.calm = true) (hN : X.N.Nodup) (ha : EO X S W a go) (hb : EV X ⟨S.T, n⟩ W b gb) (hp : S.np ≤ i) (hij : i ≠ j := by decide) (hi : X.N[i]? = some x := by rfl) (hj : X.N[j]? = some y := by rfl)
    (hx : Loc X.env.scope x := by first | exact .inl rfl | exact .inr rfl) (hy : Loc X.env.scope y := by first | exact .inl rfl | exact .inr rfl)
    (hf : X.fn x = true ∨ X.env.scope.names.lookup x = some .local := by first | exact .inl rfl | exact .inr rfl | assumption) (hf2 : X.fn y = true ∨ X.env.scope.names.lookup y = some .local := by first | exact .inl rfl | exact .inr rfl | assumption)
    (hw : swappedStores [.Tuple [.Name x px, .Name y py] kt pt] (.Tuple [a, b] k2 pt2) X.env = pure none := by rfl)
    (hs : swapsWithSole [.Tuple [.Name x px, .Name y py] kt pt] (.Tuple [a, b] k2 pt2) pos.line X.env = pure false := by rfl) (hsa : starEach [a, b] X.env = (false, eval a X.env) :: starEach [b] X.env := by rfl) (hsb : starEach [b] X.env = (false, eval b X.env) :: starEach [] X.env := by rfl)
    (h1 : (assignEach [.Tuple [.Name x px, .Name y py] kt pt] X.env).map (·.2) = [assign (.Tuple [.Name x px, .Name y py] kt pt) X.env] := by rfl)
    (h2 : (assignEach [.Name x px, .Name y py] X.env).map (·.2) = assign (.Name x px) X.env :: (assignEach [.Name y py] X.env).map (·.2) := by rfl) (h3 : (assignEach [.Name y py] X.env).map (·.2) = assign (.Name y py) X.env :: (assignEach [] X.env).map (·.2) := by rfl)
    (hl2 : (assignEach [.Name x px, .Name y py] X.env).length = 2 := by rfl) (hst : (assignEach [.Name x px, .Name y py] X.env).findIdx? (·.1) = none := by rfl) :
    ST X S W (.Assign [.Tuple [.Name x px, .Name y py] kt pt] (.Tuple [a, b] k2 pt2) pos) (gParF i j go gb) := by
  obtain ⟨t, p, q⟩ := ha
  obtain ⟨t2, p2, q2⟩ := hb
  refine ⟨_, ps_asg (pe_tup (pa_cons p (pa_cons p2 pa_nil hsb) hsa)) (pg_tup hc (pgs_cons (pg_name hN hi hx hf) (pgs_cons (pg_name hN hj hy hf2) pgs_nil h3) h2) hl2 hst) hs hw h1, fun Y A σ H δ F E hl Rl h => q _ _ _ _ _ _ _ Rl (RunS.bind h fun x δ1 v H1 F1 _ R1 s1 rx h1 => ?_)⟩
  obtain ⟨p, o, rfl, e2, r, fr⟩ := rx
  cases eg : gb δ1 with
  | bad =>
    rw [eg] at h1
    exact h1.elim
  | ex c f x δ2 =>
    rw [eg] at h1
    exact h1.elim
  | ok y δ2 =>
    rw [eg] at h1
    refine protect (hl.trans hn) R1 eg q2 fun u H2 F2 R2 s2 ru hk => ?_
    obtain ⟨k1, k2⟩ := hk p o fr e2 r.ntb
    refine ⟨small2, fun z hz => ⟨z, _, rfl, .inl (.inl upd_same), rfl, _, _, rfl, _, _, rfl, rfl, ?_⟩⟩
    have np : p ≠ z := ne_of_none k1 hz
    have h3 := h1 _ _ _ _ (((R2.laid (o := .tup [.ref p, u]) hz).setD (i := j) ru).setO hp (by rw [upd_ne np]; exact k1) (r.mono s2) ⟨k2.f, k2.h0, fun k c hk => by
      rcases set_some hk with ⟨_, z, _⟩ | ⟨_, hk⟩
      · cases z
      · exact k2.ne k c hk⟩) s2
    rw [List.set_comm _ _ (Ne.symm hij)] at h3
    exact h3
end
end DL
set_option Elab.async false
set_option linter.all false
set_option maxRecDepth 100000
set_option maxHeartbeats 4000000
namespace DL
open PySem PySem.Spec PyProof.Rows L2
/-! ### the functions on data, computed -/
@[simp] theorem bind_ok {α β : Type} (a : α) (δ : SS) (k : α → SS → R β) : (R.ok a δ).bind k = k a δ := rfl
@[simp] theorem bind_bad {α β : Type} (k : α → SS → R β) : (R.bad : R α).bind k = .bad := rfl
@[simp] theorem bind_ex {α β : Type} (c f : Str) (x : D) (δ : SS) (k : α → SS → R β) : (R.ex c f x δ : R α).bind k = .ex c f x δ := rfl
@[simp] theorem opt_some {α : Type} (a : α) (δ : SS) : R.opt (some a) δ = .ok a δ := rfl
@[simp] theorem opt_none {α : Type} (δ : SS) : R.opt (none : Option α) δ = .bad := rfl
@[simp] theorem gD_ap (g : SS → R OC) (δ : SS) : gD g δ = ((g δ).bind fun c δ' => .ok c.toD δ') := rfl
@[simp] theorem gVar_ap (i : Nat) (δ : SS) : gVar i δ = (match δ[i]? with
  | some (some (.d x)) => .ok x δ
  | _ => .bad) := rfl
@[simp] theorem gC_ap (d : D) (δ : SS) : gC d δ = (.ok d δ) := rfl
@[simp] theorem gOp_ap (f : D → D → Option D) (ga gb : SS → R D) (δ : SS) : gOp f ga gb δ = ((ga δ).bind fun x δ1 => (gb δ1).bind fun y δ2 => R.opt (f x y) δ2) := rfl
@[simp] theorem gT_ap (g : SS → R D) (δ : SS) : gT g δ = ((g δ).bind fun x δ1 => R.opt (dBool x) δ1) := rfl
@[simp] theorem gChain_ap (f f' : D → D → Option D) (ga gb gc : SS → R D) (δ : SS) : gChain f f' ga gb gc δ = ((ga δ).bind fun x δ1 => (gb δ1).bind fun y δ2 => (R.opt ((f x y).bind dBool) δ2).bind fun k δ3 =>
  if k = true then (gc δ3).bind fun z δ4 => R.opt (f' y z) δ4 else .ok (.bool false) δ3) := rfl
@[simp] theorem gAnd_ap (ga gb : SS → R Bool) (δ : SS) : gAnd ga gb δ = ((ga δ).bind fun x δ1 => if x = true then gb δ1 else .ok false δ1) := rfl
@[simp] theorem gOr_ap (ga gb : SS → R Bool) (δ : SS) : gOr ga gb δ = ((ga δ).bind fun x δ1 => if x = true then .ok true δ1 else gb δ1) := rfl
@[simp] theorem gNot_ap (ga : SS → R Bool) (δ : SS) : gNot ga δ = ((ga δ).bind fun x δ1 => .ok (!x) δ1) := rfl
@[simp] theorem gAndV_ap (ga gb : SS → R D) (δ : SS) : gAndV ga gb δ = ((gT ga δ).bind fun x δ1 => if x = true then gb δ1 else .ok (.bool false) δ1) := rfl
@[simp] theorem gOrV_ap (ga gb : SS → R D) (δ : SS) : gOrV ga gb δ = ((gT ga δ).bind fun x δ1 => if x = true then .ok (.bool true) δ1 else gb δ1) := rfl
@[simp] theorem gNotV_ap (ga : SS → R D) (δ : SS) : gNotV ga δ = ((gT ga δ).bind fun x δ1 => .ok (.bool (!x)) δ1) := rfl
@[simp] theorem gIfE_ap {α : Type} (gc : SS → R Bool) (ga gb : SS → R α) (δ : SS) : gIfE gc ga gb δ = ((gc δ).bind fun x δ1 => if x = true then ga δ1 else gb δ1) := rfl
@[simp] theorem gNil_ap  (δ : SS) : gNil  δ = (.ok [] δ) := rfl
@[simp] theorem gCons_ap (g : SS → R D) (gs : SS → R (List D)) (δ : SS) : gCons g gs δ = ((g δ).bind fun x δ1 => (gs δ1).bind fun xs δ2 => .ok (x :: xs) δ2) := rfl
@[simp] theorem gTup_ap (gs : SS → R (List D)) (δ : SS) : gTup gs δ = ((gs δ).bind fun xs δ1 => (R.opt (fitL xs) δ1).bind fun ys δ2 => .ok (.tuple ys) δ2) := rfl
@[simp] theorem gLst_ap (gs : SS → R (List D)) (δ : SS) : gLst gs δ = ((gs δ).bind fun xs δ1 => (R.opt (fitL xs) δ1).bind fun ys δ2 => .ok (.l ys) δ2) := rfl
@[simp] theorem gOwn_ap (i : Nat) (δ : SS) : gOwn i δ = (match δ[i]? with
  | some (some (.o c)) => .ok c.toD δ
  | _ => .bad) := rfl
@[simp] theorem gOpL_ap (f : D → D → Option D) (i : Nat) (gb : SS → R D) (δ : SS) : gOpL f i gb δ = (match δ[i]? with | some (some (.o _)) => gOpO f i gb δ | _ => .bad) := rfl
@[simp] theorem gOpO_ap (f : D → D → Option D) (i : Nat) (gb : SS → R D) (δ : SS) : gOpO f i gb δ = ((gb δ).bind fun y δ2 => (gOwn i δ2).bind fun x _ => R.opt (f x y) δ2) := rfl
@[simp] theorem gOpN_ap (f : D → D → Option OC) (ga gb : SS → R D) (δ : SS) : gOpN f ga gb δ = ((ga δ).bind fun x δ1 => (gb δ1).bind fun y δ2 => R.opt (f x y) δ2) := rfl
@[simp] theorem gUn_ap (f : D → Option D) (g : SS → R D) (δ : SS) : gUn f g δ = ((g δ).bind fun x δ1 => R.opt (f x) δ1) := rfl
@[simp] theorem gUnN_ap (f : D → Option OC) (g : SS → R D) (δ : SS) : gUnN f g δ = ((g δ).bind fun x δ1 => R.opt (f x) δ1) := rfl
@[simp] theorem gScr_ap (i : Nat) (δ : SS) : gScr i δ = (match δ[i]? with
  | some (some (.q ns)) => .ok ns δ
  | _ => .bad) := rfl
@[simp] theorem gScrIx_ap (i : Nat) (gb : SS → R D) (δ : SS) : gScrIx i gb δ = ((gScr i δ).bind fun ns δ1 => (gb δ1).bind fun y δ2 => R.opt (dIx (.list (ns.map .int)) y) δ2) := rfl
@[simp] theorem gScrLen_ap (i : Nat) (δ : SS) : gScrLen i δ = ((gScr i δ).bind fun ns δ1 => .ok (.int ns.length) δ1) := rfl
@[simp] theorem gPart_ap (g : SS → R D) (δ : SS) : gPart g δ = ((g δ).bind fun x δ1 => match x with
  | .int i => .ok (some i) δ1
  | _ => .bad) := rfl
@[simp] theorem gPartN_ap  (δ : SS) : gPartN  δ = (.ok none δ) := rfl
@[simp] theorem gSl_ap {α : Type} (f : D → Option Int → Option Int → Option α) (ga : SS → R D) (gl gh : SS → R (Option Int)) (δ : SS) : gSl f ga gl gh δ = ((ga δ).bind fun x δ1 => (gl δ1).bind fun l δ2 => (gh δ2).bind fun h δ3 => R.opt (f x l h) δ3) := rfl
@[simp] theorem gItL_ap (g : SS → R D) (δ : SS) : gItL g δ = ((g δ).bind fun x δ1 => match x with
  | .list xs => .ok xs δ1
  | _ => .bad) := rfl
@[simp] theorem gItT_ap (g : SS → R D) (δ : SS) : gItT g δ = ((g δ).bind fun x δ1 => match x with
  | .tuple xs => .ok xs δ1
  | _ => .bad) := rfl
@[simp] theorem gItS_ap (g : SS → R D) (δ : SS) : gItS g δ = ((g δ).bind fun x δ1 => match x with
  | .str z => .ok (signsD z) δ1
  | _ => .bad) := rfl
@[simp] theorem gRange1_ap (g : SS → R D) (δ : SS) : gRange1 g δ = ((g δ).bind fun x δ1 => match x with
  | .int j => if -(2 ^ 62) ≤ j ∧ j < 2 ^ 62 then .ok (rangeD 0 j.toNat) δ1 else .bad
  | _ => .bad) := rfl
@[simp] theorem gBin_ap {α : Type} (f : D → D → Option α) (ga gb : SS → R D) (δ : SS) : gBin f ga gb δ = ((ga δ).bind fun x δ1 => (gb δ1).bind fun y δ2 => R.opt (f x y) δ2) := rfl
@[simp] theorem gSkip_ap  (δ : SS) : gSkip  δ = (.ok .nx δ) := rfl
@[simp] theorem gSeq_ap (g1 g2 : SS → R Fl) (δ : SS) : gSeq g1 g2 δ = (match g1 δ with
  | .ok .nx δ1 => g2 δ1
  | r => r) := rfl
@[simp] theorem gBrk_ap  (δ : SS) : gBrk  δ = (.ok .bk δ) := rfl
@[simp] theorem gCnt_ap  (δ : SS) : gCnt  δ = (.ok .ct δ) := rfl
@[simp] theorem gDrop_ap (g : SS → R D) (δ : SS) : gDrop g δ = ((g δ).bind fun _ δ1 => .ok .nx δ1) := rfl
@[simp] theorem gRet_ap (g : SS → R D) (δ : SS) : gRet g δ = ((g δ).bind fun x δ1 => .ok (.rt (.d x)) δ1) := rfl
@[simp] theorem gRetO_ap (g : SS → R OC) (δ : SS) : gRetO g δ = ((g δ).bind fun x δ1 => .ok (.rt (.o x)) δ1) := rfl
@[simp] theorem gRetOwn_ap (i : Nat) (δ : SS) : gRetOwn i δ = (match δ[i]? with
  | some (some (.o c)) => .ok (.rt (.o c)) (δ.set i none)
  | _ => .bad) := rfl
@[simp] theorem gIf_ap (gt : SS → R Bool) (g1 g2 : SS → R Fl) (δ : SS) : gIf gt g1 g2 δ = ((gt δ).bind fun k δ1 => if k = true then g1 δ1 else g2 δ1) := rfl
@[simp] theorem gAsg_ap (i : Nat) (g : SS → R D) (δ : SS) : gAsg i g δ = ((g δ).bind fun x δ1 => .ok .nx (δ1.set i (some (.d x)))) := rfl
@[simp] theorem gAsgO_ap (i : Nat) (g : SS → R OC) (δ : SS) : gAsgO i g δ = ((g δ).bind fun x δ1 => .ok .nx (δ1.set i (some (.o x)))) := rfl
@[simp] theorem gAsgT_ap (f : D → SS → Option SS) (g : SS → R D) (δ : SS) : gAsgT f g δ = ((g δ).bind fun x δ1 => match f x δ1 with
  | some δ2 => .ok .nx δ2
  | none => .bad) := rfl
@[simp] theorem gPar_ap (i j : Nat) (ga gb : SS → R D) (δ : SS) : gPar i j ga gb δ = ((ga δ).bind fun x δ1 => (gb δ1).bind fun y δ2 => .ok .nx ((δ2.set i (some (.d x))).set j (some (.d y)))) := rfl
@[simp] theorem gParO_ap (i j : Nat) (ga : SS → R D) (gb : SS → R OC) (δ : SS) : gParO i j ga gb δ = ((ga δ).bind fun x δ1 => (gb δ1).bind fun y δ2 => .ok .nx ((δ2.set i (some (.d x))).set j (some (.o y)))) := rfl
@[simp] theorem gParF_ap (i j : Nat) (go : SS → R OC) (gb : SS → R D) (δ : SS) : gParF i j go gb δ = ((go δ).bind fun x δ1 => match gb δ1 with
  | .ok y δ2 => .ok .nx (((mergeD δ1 δ2).set j (some (.d y))).set i (some (.o x)))
  | _ => .bad) := rfl
@[simp] theorem gPar3_ap (i j l : Nat) (ga gb gc : SS → R D) (δ : SS) : gPar3 i j l ga gb gc δ = ((ga δ).bind fun x δ1 => (gb δ1).bind fun y δ2 => (gc δ2).bind fun z δ3 => .ok .nx (((δ3.set i (some (.d x))).set j (some (.d y))).set l (some (.d z)))) := rfl
@[simp] theorem gPar3O_ap (i j l : Nat) (ga gb : SS → R D) (gc : SS → R OC) (δ : SS) : gPar3O i j l ga gb gc δ = ((ga δ).bind fun x δ1 => (gb δ1).bind fun y δ2 => (gc δ2).bind fun z δ3 => .ok .nx (((δ3.set i (some (.d x))).set j (some (.d y))).set l (some (.o z)))) := rfl
@[simp] theorem gApp_ap (i : Nat) (g : SS → R D) (δ : SS) : gApp i g δ = ((g δ).bind fun x δ1 => match δ1[i]? with
  | some (some (.o (.l xs))) => if xs.length < sizeLine then .ok .nx (δ1.set i (some (.o (.l (xs ++ [x]))))) else .bad
  | _ => .bad) := rfl
@[simp] theorem gApO_ap (i : Nat) (g : SS → R D) (δ : SS) : gApO i g δ = (match δ[i]? with
  | some (some (.o (.l _))) => gApp i g δ
  | _ => .bad) := rfl
@[simp] theorem gSetIx_ap (i : Nat) (gv gi : SS → R D) (δ : SS) : gSetIx i gv gi δ = ((gv δ).bind fun v δ1 => if isO i δ1 = true then (gi δ1).bind fun k δ2 => match δ2[i]?, k with
    | some (some (.o (.l xs))), .int k => (match ixN xs.length k with
      | some j => .ok .nx (δ2.set i (some (.o (.l (xs.set j v)))))
      | none => .bad)
    | _, _ => .bad
  else .bad) := rfl
@[simp] theorem gAg0_ap  (δ : SS) : gAg0  δ = (.ok [] δ) := rfl
@[simp] theorem gAgD_ap (g : SS → R D) (gs : SS → R (List Ag)) (δ : SS) : gAgD g gs δ = ((g δ).bind fun x δ1 => (gs δ1).bind fun xs δ2 => .ok (.v (.d x) :: xs) δ2) := rfl
@[simp] theorem gAgS_ap (i : Nat) (gs : SS → R (List Ag)) (δ : SS) : gAgS i gs δ = (match δ[i]? with
  | some (some (SV.o _)) => (gs δ).bind fun xs δ2 => .ok (.s i :: xs) δ2
  | some (some (SV.q ns)) => (gs δ).bind fun xs δ2 => .ok (.v (.q ns) :: xs) δ2
  | _ => .bad) := rfl
@[simp] theorem gAgF_ap (g : SS → R OC) (δ : SS) : gAgF g δ = ((g δ).bind fun c δ1 => .ok [.f c] δ1) := rfl
@[simp] theorem gCallR_ap (np : Nat) (G : List SV → RF) (gs : SS → R (List Ag)) (δ : SS) : gCallR np G gs δ = ((gs δ).bind (gCallA np G)) := rfl
@[simp] theorem gCallKN_ap (np m mk : Nat) (π : List Nat) (G : List SV → RF) (gs gk : SS → R (List Ag)) (δ : SS) : gCallKN np m mk π G gs gk δ = ((gs δ).bind fun as δ1 => if noF as = true then (gk δ1).bind (fun bs δ2 => if as.length = m ∧ bs.length = mk then gCallA np G (pick π (as ++ bs)) δ2 else .bad) else .bad) := rfl
@[simp] theorem gOfR_ap (g : SS → R RV) (δ : SS) : gOfR g δ = ((g δ).bind fun r δ1 => .ok r.toD δ1) := rfl
@[simp] theorem gOfRO_ap (g : SS → R RV) (δ : SS) : gOfRO g δ = ((g δ).bind fun r δ1 => match r with
  | .o c => .ok c δ1
  | .d _ => .bad) := rfl
@[simp] theorem gRaise_ap (c f : Str) (g : SS → R D) (δ : SS) : gRaise c f g δ = ((g δ).bind fun x δ1 => .ex c f x δ1) := rfl
@[simp] theorem gRef_ap (c f : Str) (g : SS → R D) (δ : SS) : gRef c f g δ = (match g δ with
  | .bad => .bad
  | .ok _ δ1 => .ok (.str "") δ1
  | .ex c' f' x δ1 => if c' = c ∧ f' = f then .ok x δ1 else .bad) := rfl
@[simp] theorem gFrz_ap (i : Nat) (g : SS → R Fl) (δ : SS) : gFrz i g δ = (match δ[i]? with
  | some (some (.o c)) => g (δ.set i (some (.d c.toD)))
  | _ => .bad) := rfl
@[simp] theorem gEnum_ap (f : D → Option (List D)) (g : SS → R D) (δ : SS) : gEnum f g δ = ((g δ).bind fun x δ1 => match f x with
  | some xs => .ok (enumD xs) δ1
  | none => .bad) := rfl
@[simp] theorem gEnumL_ap (g : SS → R D) (δ : SS) : gEnumL g δ = ((gItL g δ).bind fun xs δ1 => .ok (enumD xs) δ1) := rfl
@[simp] theorem gYes_ap  (δ : SS) : gYes  δ = (.ok true δ) := rfl
@[simp] theorem gFor_ap (src : SS → R (List D)) (tg : D → SS → Option SS) (gb : SS → R Fl) (δ : SS) : gFor src tg gb δ = ((src δ).bind fun items δ1 => forLoop tg gb items δ1) := rfl
@[simp] theorem gScrSl_ap (i : Nat) (gl gh : SS → R (Option Int)) (δ : SS) : gScrSl i gl gh δ = gSl cSlL (fun δ => (gScr i δ).bind fun ns δ1 => .ok (.list (ns.map .int)) δ1) gl gh δ := rfl
@[simp] theorem gDef_ap (np m : Nat) (gb : SS → R Fl) (svs : List SV) : gDef np m gb svs = (if svs.length = np then toRF np (gb (svs.map some ++ List.replicate m none)) else .bad) := rfl
@[simp] theorem resolve_ap (δ : SS) (ags : List Ag) : resolve δ ags = (if agOk ags = true then resL δ ags else none) := rfl
@[simp] theorem agOk_ap (ags : List Ag) : agOk ags = decide (ags.Pairwise fun a b => agId a = none ∨ agId a ≠ agId b) := rfl
@[simp] theorem gCallA_ap (np : Nat) (G : List SV → RF) (ags : List Ag) (δ : SS) : gCallA np G ags δ = (if ags.length = np then (match resolve δ ags with
  | none => .bad
  | some svs => match G svs with
    | .bad => .bad
    | .ok r as => .ok r (DL.wb δ ags as)
    | .ex c f x as => .ex c f x (DL.wb δ ags as)) else .bad) := rfl
@[simp] theorem ocAt_ap (δ : SS) (i : Nat) : ocAt δ i = (match δ[i]? with
  | some (some (.o c)) => some c
  | _ => none) := rfl
@[simp] theorem isO_ap (i : Nat) (δ : SS) : isO i δ = (match δ[i]? with
  | some (some (.o (.l _))) => true
  | _ => false) := rfl
@[simp] theorem fName_ap (i : Nat) (d : D) (δ : SS) : fName i d δ = some (δ.set i (some (.d d))) := rfl
@[simp] theorem fNil_ap (δ : SS) : fNil [] δ = some δ := rfl
@[simp] theorem fCons_ap (f : D → SS → Option SS) (fs : List D → SS → Option SS) (d : D) (r : List D) (δ : SS) : fCons f fs (d :: r) δ = (f d δ).bind fun δ1 => fs r δ1 := rfl
@[simp] theorem fTup_ap (n : Nat) (fs : List D → SS → Option SS) (ds : List D) (δ : SS) : fTup n fs (.tuple ds) δ = if ds.length = n then fs ds δ else none := rfl
@[simp] theorem noF_nil : noF [] = true := rfl
@[simp] theorem noF_v (x : SV) (as : List Ag) : noF (.v x :: as) = noF as := by simp [noF]
@[simp] theorem noF_s (i : Nat) (as : List Ag) : noF (.s i :: as) = noF as := by simp [noF]
@[simp] theorem aft_0 (δ : SS) : aft 0 δ = [] := rfl
@[simp] theorem aft_1 (δ : SS) : aft 1 δ = [ocAt δ 0] := rfl
@[simp] theorem aft_2 (δ : SS) : aft 2 δ = [ocAt δ 0, ocAt δ 1] := rfl
@[simp] theorem aft_3 (δ : SS) : aft 3 δ = [ocAt δ 0, ocAt δ 1, ocAt δ 2] := rfl
@[simp] theorem aft_4 (δ : SS) : aft 4 δ = [ocAt δ 0, ocAt δ 1, ocAt δ 2, ocAt δ 3] := rfl
@[simp] theorem aft_5 (δ : SS) : aft 5 δ = [ocAt δ 0, ocAt δ 1, ocAt δ 2, ocAt δ 3, ocAt δ 4] := rfl
@[simp] theorem aft_6 (δ : SS) : aft 6 δ = [ocAt δ 0, ocAt δ 1, ocAt δ 2, ocAt δ 3, ocAt δ 4, ocAt δ 5] := rfl
@[simp] theorem aft_7 (δ : SS) : aft 7 δ = [ocAt δ 0, ocAt δ 1, ocAt δ 2, ocAt δ 3, ocAt δ 4, ocAt δ 5, ocAt δ 6] := rfl
@[simp] theorem aft_8 (δ : SS) : aft 8 δ = [ocAt δ 0, ocAt δ 1, ocAt δ 2, ocAt δ 3, ocAt δ 4, ocAt δ 5, ocAt δ 6, ocAt δ 7] := rfl
@[simp] theorem aft_9 (δ : SS) : aft 9 δ = [ocAt δ 0, ocAt δ 1, ocAt δ 2, ocAt δ 3, ocAt δ 4, ocAt δ 5, ocAt δ 6, ocAt δ 7, ocAt δ 8] := rfl
@[simp] theorem aft_10 (δ : SS) : aft 10 δ = [ocAt δ 0, ocAt δ 1, ocAt δ 2, ocAt δ 3, ocAt δ 4, ocAt δ 5, ocAt δ 6, ocAt δ 7, ocAt δ 8, ocAt δ 9] := rfl
@[simp] theorem aft_11 (δ : SS) : aft 11 δ = [ocAt δ 0, ocAt δ 1, ocAt δ 2, ocAt δ 3, ocAt δ 4, ocAt δ 5, ocAt δ 6, ocAt δ 7, ocAt δ 8, ocAt δ 9, ocAt δ 10] := rfl
@[simp] theorem aft_12 (δ : SS) : aft 12 δ = [ocAt δ 0, ocAt δ 1, ocAt δ 2, ocAt δ 3, ocAt δ 4, ocAt δ 5, ocAt δ 6, ocAt δ 7, ocAt δ 8, ocAt δ 9, ocAt δ 10, ocAt δ 11] := rfl
@[simp] theorem aft_13 (δ : SS) : aft 13 δ = [ocAt δ 0, ocAt δ 1, ocAt δ 2, ocAt δ 3, ocAt δ 4, ocAt δ 5, ocAt δ 6, ocAt δ 7, ocAt δ 8, ocAt δ 9, ocAt δ 10, ocAt δ 11, ocAt δ 12] := rfl
@[simp] theorem aft_14 (δ : SS) : aft 14 δ = [ocAt δ 0, ocAt δ 1, ocAt δ 2, ocAt δ 3, ocAt δ 4, ocAt δ 5, ocAt δ 6, ocAt δ 7, ocAt δ 8, ocAt δ 9, ocAt δ 10, ocAt δ 11, ocAt δ 12, ocAt δ 13] := rfl
@[simp] theorem fitL_ap (xs : List D) : fitL xs = (if xs.length ≤ sizeLine then some xs else none) := rfl
theorem small_line {n : Nat} (h : n ≤ 1000000) : n ≤ sizeLine := by
  rw [sizeLine_eq]
  omega
@[simp] theorem line_0 : (0 ≤ sizeLine) = True := by simp [small_line (n := 0) (by decide)]
@[simp] theorem line_1 : (1 ≤ sizeLine) = True := by simp [small_line (n := 1) (by decide)]
@[simp] theorem line_2 : (2 ≤ sizeLine) = True := by simp [small_line (n := 2) (by decide)]
@[simp] theorem line_3 : (3 ≤ sizeLine) = True := by simp [small_line (n := 3) (by decide)]
@[simp] theorem line_4 : (4 ≤ sizeLine) = True := by simp [small_line (n := 4) (by decide)]
@[simp] theorem line_5 : (5 ≤ sizeLine) = True := by simp [small_line (n := 5) (by decide)]
@[simp] theorem line_6 : (6 ≤ sizeLine) = True := by simp [small_line (n := 6) (by decide)]
@[simp] theorem line_7 : (7 ≤ sizeLine) = True := by simp [small_line (n := 7) (by decide)]
@[simp] theorem line_8 : (8 ≤ sizeLine) = True := by simp [small_line (n := 8) (by decide)]
/-- a value is given, of which P holds -/
def OkR {α : Type} (r : R α) (P : α → SS → Prop) : Prop := ∃ a δ, r = .ok a δ ∧ P a δ
@[simp] theorem okR_ok {α : Type} (a : α) (δ : SS) (P : α → SS → Prop) : OkR (.ok a δ) P ↔ P a δ := ⟨fun ⟨_, _, e, h⟩ => by cases e; exact h, fun h => ⟨a, δ, rfl, h⟩⟩
@[simp] theorem okR_bad {α : Type} (P : α → SS → Prop) : OkR .bad P ↔ False := ⟨fun ⟨_, _, e, _⟩ => (nomatch e), False.elim⟩
@[simp] theorem okR_ex {α : Type} (c f : Str) (x : D) (δ : SS) (P : α → SS → Prop) : OkR (.ex c f x δ) P ↔ False := ⟨fun ⟨_, _, e, _⟩ => (nomatch e), False.elim⟩
theorem okR_bind {α β : Type} {r : R α} {k : α → SS → R β} {P : β → SS → Prop} (h : OkR r fun a δ => OkR (k a δ) P) : OkR (r.bind k) P := by
  obtain ⟨a, δ, rfl, h⟩ := h
  exact h
theorem okR_imp {α : Type} {r : R α} {P Q : α → SS → Prop} (h : OkR r P) (hq : ∀ a δ, P a δ → Q a δ) : OkR r Q := by
  obtain ⟨a, δ, e, h⟩ := h
  exact ⟨a, δ, e, hq _ _ h⟩
/-! slots -/
theorem var_at {i : Nat} {δ : SS} {x : D} (h : δ[i]? = some (some (.d x))) : gVar i δ = .ok x δ := by unfold gVar; rw [h]
theorem own_at {i : Nat} {δ : SS} {c : OC} (h : δ[i]? = some (some (.o c))) : gOwn i δ = .ok c.toD δ := by unfold gOwn; rw [h]
/-! ints -/
theorem alike_ii (a b : Int) : PySem.W.alike (.int a) (.int b) = true := by simp [PySem.W.alike]
theorem lt_ii (a b : Int) : PySem.W.dataLt (.int a) (.int b) = decide (a < b) := by
  have h := congrFun (congrFun (PySem.W.dataLe_int (β := Int) id) b) a
  have h' : (!PySem.W.dataLt (.int a) (.int b)) = decide (b ≤ a) := h
  have e : PySem.W.dataLt (.int a) (.int b) = !decide (b ≤ a) := by rw [← h', Bool.not_not]
  rw [e]
  by_cases c : a < b
  · rw [decide_eq_true c, decide_eq_false (by omega)]
    rfl
  · rw [decide_eq_false c, decide_eq_true (by omega)]
    rfl
theorem ordB_ii (a b : Int) : ordB (.int a) (.int b) = true := by simp [ordB, PySem.W.alike, PyData.plain, PyData.depth]
@[simp] theorem dLt_ii (a b : Int) : dLt (.int a) (.int b) = some (.bool (decide (a < b))) := by simp [dLt, dOrd, ordB_ii, lt_ii]
@[simp] theorem dGt_ii (a b : Int) : dGt (.int a) (.int b) = some (.bool (decide (b < a))) := by simp [dGt, dOrd, ordB_ii, lt_ii]
@[simp] theorem dLe_ii (a b : Int) : dLe (.int a) (.int b) = some (.bool (decide (a ≤ b))) := by
  simp only [dLe, dOrd, ordB_ii, lt_ii, if_true]
  by_cases c : a ≤ b
  · rw [decide_eq_true c, decide_eq_false (by omega)]
    rfl
  · rw [decide_eq_false c, decide_eq_true (by omega)]
    rfl
@[simp] theorem dGe_ii (a b : Int) : dGe (.int a) (.int b) = some (.bool (decide (b ≤ a))) := by
  simp only [dGe, dOrd, ordB_ii, lt_ii, if_true]
  by_cases c : b ≤ a
  · rw [decide_eq_true c, decide_eq_false (by omega)]
    rfl
  · rw [decide_eq_false c, decide_eq_true (by omega)]
    rfl
theorem eqB_ii (a b : Int) : eqB (.int a) (.int b) = true := by simp [eqB, PyData.plain, PyData.depth]
@[simp] theorem dEq_ii (a b : Int) : dEq (.int a) (.int b) = some (.bool (decide (a = b))) := by
  simp only [dEq, dEqF, eqB_ii, PyData.eqv, if_true]
  rfl
@[simp] theorem dNe_ii (a b : Int) : dNe (.int a) (.int b) = some (.bool (decide (a ≠ b))) := by
  simp only [dNe, dEqF, eqB_ii, PyData.eqv, if_true]
  by_cases c : a = b <;> simp [c]
@[simp] theorem dAdd_ii (a b : Int) : dAdd (.int a) (.int b) = some (.int (a + b)) := rfl
@[simp] theorem dSub_ii (a b : Int) : dSub (.int a) (.int b) = some (.int (a - b)) := rfl
@[simp] theorem dNeg_i (a : Int) : dNeg (.int a) = some (.int (-a)) := rfl
@[simp] theorem dBool_b (b : Bool) : dBool (.bool b) = some b := rfl
theorem dMod_ii {a b : Int} (h : 0 < b) : dMod (.int a) (.int b) = some (.int (a % b)) := by
  show (if 0 < b then some (PyData.int (a % b)) else none) = _
  rw [if_pos h]
theorem dDiv_ii {a b : Int} (h : 0 < b ∧ b < 1073741824) : dDiv (.int a) (.int b) = some (.int (a / b)) := by
  show (if 0 < b ∧ b < 1073741824 then some (PyData.int (a / b)) else none) = _
  rw [if_pos h]
theorem dMul_ii {a b : Int} (h : (-(2 ^ 64) < a ∧ a < 2 ^ 64) ∨ (-(2 ^ 64) < b ∧ b < 2 ^ 64)) : dMul (.int a) (.int b) = some (.int (a * b)) := by
  show (if (-(2 ^ 64) < a ∧ a < 2 ^ 64) ∨ (-(2 ^ 64) < b ∧ b < 2 ^ 64) then some (PyData.int (a * b)) else none) = _
  rw [if_pos h]
@[simp] theorem dInt_i (a : Int) : dInt (.int a) = some (.int a) := rfl
@[simp] theorem dLen_l (xs : List D) : dLen (.list xs) = some (.int xs.length) := rfl
@[simp] theorem dLen_t (xs : List D) : dLen (.tuple xs) = some (.int xs.length) := rfl
@[simp] theorem dTuple_l (xs : List D) : dTuple (.list xs) = some (.tuple xs) := rfl
@[simp] theorem dTuple_t (xs : List D) : dTuple (.tuple xs) = some (.tuple xs) := rfl
@[simp] theorem cList_l (xs : List D) : cList (.list xs) = some (.l xs) := rfl
@[simp] theorem cList_t (xs : List D) : cList (.tuple xs) = some (.l xs) := rfl
theorem ix_nat {n j : Nat} (hj : j < n) : ixN n (j : Int) = some j := by
  unfold ixN
  rw [if_pos (by omega), if_pos (by omega)]
  simp
theorem atI_nat {α : Type} {xs : List α} {j : Nat} {x : α} (h : xs[j]? = some x) : atI xs (j : Int) = some x := by
  unfold atI
  rw [ix_nat (List.getElem?_eq_some_iff.mp h).1]
  exact h
theorem dIx_l {xs : List D} {j : Nat} {x : D} (h : xs[j]? = some x) : dIx (.list xs) (.int (j : Nat)) = some x := atI_nat h
theorem dIx_t {xs : List D} {j : Nat} {x : D} (h : xs[j]? = some x) : dIx (.tuple xs) (.int (j : Nat)) = some x := atI_nat h
theorem intsOf_mapI {α : Type} (f : α → Int) (xs : List α) : intsOf (xs.map fun a => PyData.int (f a)) = some (xs.map f) := by
  have e : (xs.map fun a => PyData.int (f a)) = (xs.map f).map .int := by rw [List.map_map] <;> rfl
  rw [e, intsOf_map]
theorem blsOf_mapB {α : Type} (f : α → Bool) (xs : List α) : blsOf (xs.map fun a => PyData.bool (f a)) = some (xs.map f) := by
  have e : (xs.map fun a => PyData.bool (f a)) = (xs.map f).map .bool := by rw [List.map_map] <;> rfl
  rw [e, blsOf_map]
theorem dAll_mapB {α : Type} (f : α → Bool) (xs : List α) : dAll (.list (xs.map fun a => PyData.bool (f a))) = some (.bool (xs.all f)) := by
  show (blsOf (xs.map fun a => PyData.bool (f a))).map (fun bs => PyData.bool (bs.all id)) = _
  rw [blsOf_mapB]
  simp [List.all_map]
/-! comprehensions whose parts are told item by item -/
def lcOne (vs : List Nat) (tg : D → SS → Option SS) (tt : SS → R Bool) (te : SS → R D) (d : D) (δ : SS) : Option (Option D × SS) := match tg d (wipeD δ vs) with
  | none => none
  | some δ1 => match tt δ1 with
    | .ok true δ2 => (match te δ2 with
      | .ok y δ3 => some (some y, mergeD δ δ3)
      | _ => none)
    | .ok false δ2 => some (none, mergeD δ δ2)
    | _ => none
theorem lc_run1 {α : Type} {vs : List Nat} {tg : D → SS → Option SS} {tt : SS → R Bool} {te : SS → R D} {δ : SS} (enc : α → D) (p : α → Bool) (f : α → D) : ∀ (xs : List α) (ys : List D),
    (∀ a ∈ xs, lcOne vs tg tt te (enc a) δ = some (if p a = true then some (f a) else none, δ)) → ys.length + xs.length ≤ sizeLine →
    lcLoop vs tg tt te (xs.map enc) ys δ = .ok (.l (ys ++ (xs.filter p).map f)) δ
  | [], ys, _, _ => by simp [lcLoop]
  | a :: xs, ys, h, hl => by
    have h1 := h a (by simp)
    have hl' : ys.length + xs.length + 1 ≤ sizeLine := by simpa [Nat.add_assoc] using hl
    rw [List.map_cons]
    unfold lcLoop
    unfold lcOne at h1
    cases etg : tg (enc a) (wipeD δ vs) with
    | none =>
      rw [etg] at h1
      cases h1
    | some δ1 =>
      rw [etg] at h1
      dsimp only at h1 ⊢
      cases ett : tt δ1 with
      | bad =>
        rw [ett] at h1
        cases h1
      | ex c f x δ2 =>
        rw [ett] at h1
        cases h1
      | ok k δ2 =>
        rw [ett] at h1
        cases k with
        | true =>
          dsimp only at h1 ⊢
          cases ete : te δ2 with
          | bad =>
            rw [ete] at h1
            cases h1
          | ex c f x δ3 =>
            rw [ete] at h1
            cases h1
          | ok y δ3 =>
            rw [ete] at h1
            dsimp only at h1 ⊢
            cases hp : p a with
            | false =>
              rw [hp] at h1
              cases h1
            | true =>
              rw [hp] at h1
              have h2 := Option.some.inj h1
              injection h2 with h3 h4
              have h5 : y = f a := Option.some.inj h3
              rw [if_pos (by omega), h4, h5, lc_run1 enc p f xs (ys ++ [f a]) (fun b hb => h b (by simp [hb])) (by simp; omega)]
              simp [hp]
        | false =>
          dsimp only at h1 ⊢
          cases hp : p a with
          | true =>
            rw [hp] at h1
            cases h1
          | false =>
            have h2 := Option.some.inj h1
            injection h2 with h3 h4
            rw [h4, lc_run1 enc p f xs ys (fun b hb => h b (by simp [hb])) (by omega)]
            simp [hp]
theorem gLc_run {α : Type} {vs : List Nat} {src : SS → R (List D)} {tg : D → SS → Option SS} {tt : SS → R Bool} {te : SS → R D} {δ δ0 : SS} (enc : α → D) (p : α → Bool) (f : α → D) (xs : List α) (hs : src δ0 = .ok (xs.map enc) δ) (hl : xs.length ≤ sizeLine)
    (h : ∀ a ∈ xs, lcOne vs tg tt te (enc a) δ = some (if p a = true then some (f a) else none, δ)) : gLc vs src tg tt te δ0 = .ok (.l ((xs.filter p).map f)) δ := by
  unfold gLc
  rw [hs, bind_ok, lc_run1 enc p f xs [] h (by simpa using hl)]
  simp
/-- without a condition -/
theorem gLc_map {α : Type} {vs : List Nat} {src : SS → R (List D)} {tg : D → SS → Option SS} {te : SS → R D} {δ δ0 : SS} (enc : α → D) (f : α → D) (xs : List α) (hs : src δ0 = .ok (xs.map enc) δ) (hl : xs.length ≤ sizeLine)
    (h : ∀ a ∈ xs, lcOne vs tg gYes te (enc a) δ = some (some (f a), δ)) : gLc vs src tg gYes te δ0 = .ok (.l (xs.map f)) δ := by
  have z := gLc_run (vs := vs) (tg := tg) (tt := gYes) (te := te) enc (fun _ => true) f xs hs hl fun a ha => by rw [h a ha]; simp
  rw [z]
  have e : xs.filter (fun _ => true) = xs := by simp
  rw [e]
/-! for loops -/
/-- where a loop's body leads: on with I, out with B, or a return of which T holds -/
def BOk (r : R Fl) (I B : SS → Prop) (T : RV → SS → Prop) : Prop := OkR r fun fl δ => match fl with
  | .nx => I δ
  | .ct => I δ
  | .bk => B δ
  | .rt v => T v δ
theorem for_run {tg : D → SS → Option SS} {gb : SS → R Fl} {B : SS → Prop} {T : RV → SS → Prop} : ∀ (ds : List D) (I : Nat → SS → Prop) (δ : SS), I 0 δ →
    (∀ i d δ, ds[i]? = some d → I i δ → ∃ δ1, tg d δ = some δ1 ∧ BOk (gb δ1) (I (i + 1)) B T) →
    OkR (forLoop tg gb ds δ) fun fl δ' => match fl with
      | .nx => I ds.length δ' ∨ B δ'
      | .rt v => T v δ'
      | _ => False
  | [], I, δ, h0, _ => ⟨.nx, δ, rfl, .inl h0⟩
  | d :: ds, I, δ, h0, hs => by
    obtain ⟨δ1, h1, fl, δ2, h2, h3⟩ := hs 0 d δ rfl h0
    unfold forLoop
    rw [h1]
    dsimp only
    rw [h2]
    have ih := for_run (tg := tg) (gb := gb) (B := B) (T := T) ds (fun i => I (i + 1)) δ2
    cases fl with
    | nx => exact ih h3 fun i d' δ' hd hI => hs (i + 1) d' δ' hd hI
    | ct => exact ih h3 fun i d' δ' hd hI => hs (i + 1) d' δ' hd hI
    | bk => exact ⟨.nx, δ2, rfl, .inr h3⟩
    | rt v => exact ⟨.rt v, δ2, rfl, h3⟩
end DL
set_option Elab.async false
set_option linter.all false
set_option maxRecDepth 100000
set_option maxHeartbeats 4000000
namespace DL
open PySem PySem.Spec PyProof.Rows L2
@[simp] theorem gNewM_ap (δ : SS) : gNewM δ = .ok (.m []) δ := rfl
@[simp] theorem dAt_ap (δ : SS) (i : Nat) : dAt δ i = (match δ[i]? with
  | some (some (.o (.m kvs))) => some kvs
  | some (some (.f kvs)) => some kvs
  | _ => none) := rfl
@[simp] theorem gDIx_ap (i : Nat) (gb : SS → R D) (δ : SS) : gDIx i gb δ = (if (dAt δ i).isSome = true then (gb δ).bind fun y δ1 => R.opt ((keyP y).bind fun k => (dAt δ1 i).bind fun kvs => valD kvs k) δ1 else .bad) := rfl
@[simp] theorem gDGet_ap (i : Nat) (gb gc : SS → R D) (δ : SS) : gDGet i gb gc δ = (if (dAt δ i).isSome = true then (gb δ).bind fun y δ1 => (gc δ1).bind fun z δ2 => R.opt ((keyP y).bind fun k => (dAt δ2 i).map fun kvs => (valD kvs k).getD z) δ2 else .bad) := rfl
@[simp] theorem isM_ap (i : Nat) (δ : SS) : isM i δ = (match δ[i]? with
  | some (some (.o (.m _))) => true
  | _ => false) := rfl
@[simp] theorem gSetK_ap (i : Nat) (gv gi : SS → R D) (δ : SS) : gSetK i gv gi δ = ((gv δ).bind fun v δ1 => if isM i δ1 = true then (gi δ1).bind fun y δ2 => match δ2[i]?, keyP y with
    | some (some (.o (.m kvs))), some k => if kvs.length < sizeLine then .ok .nx (δ2.set i (some (.o (.m (putD kvs k v))))) else .bad
    | _, _ => .bad
  else .bad) := rfl
@[simp] theorem gLk_ap (i : Nat) (g : SS → R OC) (δ : SS) : gLk i g δ = (match δ[i]? with
  | some (some (.o (.m kvs))) => (match g (δ.set i (some (.f kvs))) with
    | .ok c δ1 => .ok c ((mergeD (δ.set i (some (.f kvs))) δ1).set i (some (.o (.m kvs))))
    | _ => .bad)
  | _ => .bad) := rfl
@[simp] theorem gKeysF_ap (i : Nat) (δ : SS) : gKeysF i δ = (match δ[i]? with
  | some (some (.f kvs)) => .ok (kvs.map (·.1)) δ
  | _ => .bad) := rfl
@[simp] theorem gItA_ap (g : SS → R D) (δ : SS) : gItA g δ = ((g δ).bind fun x δ1 => match x with
  | .tuple xs => .ok xs δ1
  | .list xs => .ok xs δ1
  | _ => .bad) := rfl
@[simp] theorem keyP_int (i : Int) : keyP (.int i) = some (.inl i) := rfl
@[simp] theorem keyP_str (s : Str) : keyP (.str s) = some (.inr s) := rfl
/-! dict comprehensions whose parts are told item by item -/
def dcOne (vs : List Nat) (tg : D → SS → Option SS) (tt : SS → R Bool) (tk tv : SS → R D) (d : D) (δ : SS) : Option (Option (Key × D) × SS) := match tg d (wipeD δ vs) with
  | none => none
  | some δ1 => match tt δ1 with
    | .ok true δ2 => (match tk δ2 with
      | .ok y δ3 => (match tv δ3 with
        | .ok z δ4 => (keyP y).map fun k => (some (k, z), mergeD δ δ4)
        | _ => none)
      | _ => none)
    | .ok false δ2 => some (none, mergeD δ δ2)
    | _ => none
theorem putD_len (kvs : List (D × D)) (k : Key) (v : D) : (putD kvs k v).length ≤ kvs.length + 1 := by
  unfold putD
  split
  · rw [List.length_map]
    omega
  · simp
theorem dc_run1 {α : Type} {vs : List Nat} {tg : D → SS → Option SS} {tt : SS → R Bool} {tk tv : SS → R D} {δ : SS} (enc : α → D) (fk : α → Key) (fv : α → D) : ∀ (xs : List α) (ys : List (D × D)),
    (∀ a ∈ xs, dcOne vs tg tt tk tv (enc a) δ = some (some (fk a, fv a), δ)) → ys.length + xs.length ≤ sizeLine →
    dcLoop vs tg tt tk tv (xs.map enc) ys δ = .ok (.m (xs.foldl (fun ys a => putD ys (fk a) (fv a)) ys)) δ
  | [], ys, _, _ => by simp [dcLoop]
  | a :: xs, ys, h, hl => by
    have h1 := h a (by simp)
    have hl' : ys.length + xs.length + 1 ≤ sizeLine := by simpa [Nat.add_assoc] using hl
    rw [List.map_cons]
    unfold dcLoop
    unfold dcOne at h1
    cases etg : tg (enc a) (wipeD δ vs) with
    | none =>
      rw [etg] at h1
      cases h1
    | some δ1 =>
      rw [etg] at h1
      dsimp only at h1 ⊢
      cases ett : tt δ1 with
      | bad =>
        rw [ett] at h1
        cases h1
      | ex c f x δ2 =>
        rw [ett] at h1
        cases h1
      | ok k δ2 =>
        rw [ett] at h1
        cases k with
        | false =>
          dsimp only at h1
          injection h1 with h1
          injection h1 with h1 _
          cases h1
        | true =>
          dsimp only at h1 ⊢
          cases etk : tk δ2 with
          | bad =>
            rw [etk] at h1
            cases h1
          | ex c f x δ3 =>
            rw [etk] at h1
            cases h1
          | ok y δ3 =>
            rw [etk] at h1
            dsimp only at h1 ⊢
            cases etv : tv δ3 with
            | bad =>
              rw [etv] at h1
              cases h1
            | ex c f x δ4 =>
              rw [etv] at h1
              cases h1
            | ok z δ4 =>
              rw [etv] at h1
              dsimp only at h1 ⊢
              obtain ⟨k, ek, h2⟩ := Option.map_eq_some_iff.mp h1
              injection h2 with h3 h4
              injection h3 with h3
              injection h3 with h5 h6
              rw [ek]
              dsimp only
              have hp := putD_len ys (fk a) (fv a)
              rw [if_pos (by omega), h4, h5, h6, dc_run1 enc fk fv xs (putD ys (fk a) (fv a)) (fun b hb => h b (by simp [hb])) (by omega)]
              rfl
theorem gDc_map {α : Type} {vs : List Nat} {src : SS → R (List D)} {tg : D → SS → Option SS} {tk tv : SS → R D} {δ δ0 : SS} (enc : α → D) (fk : α → Key) (fv : α → D) (xs : List α) (hs : src δ0 = .ok (xs.map enc) δ) (hl : xs.length ≤ sizeLine)
    (h : ∀ a ∈ xs, dcOne vs tg gYes tk tv (enc a) δ = some (some (fk a, fv a), δ)) : gDc vs src tg gYes tk tv δ0 = .ok (.m (xs.foldl (fun ys a => putD ys (fk a) (fv a)) [])) δ := by
  unfold gDc
  rw [hs, bind_ok, dc_run1 enc fk fv xs [] h (by simpa using hl)]
/-! dicts of ints by texts -/
def mD (kvs : List (Str × Int)) : List (D × D) := kvs.map fun p => (.str p.1, .int p.2)
def valI (kvs : List (Str × Int)) (s : Str) : Option Int := (kvs.find? fun p => decide (p.1 = s)).map (·.2)
def putI (kvs : List (Str × Int)) (s : Str) (n : Int) : List (Str × Int) := if (kvs.any fun p => decide (p.1 = s)) = true then kvs.map (fun p => if p.1 = s then (p.1, n) else p) else kvs ++ [(s, n)]
theorem valD_mD (s : Str) : ∀ kvs : List (Str × Int), valD (mD kvs) (.inr s) = (valI kvs s).map .int
  | [] => rfl
  | p :: kvs => by
    have ih := valD_mD s kvs
    unfold valD mD valI at *
    rw [List.map_cons, List.find?_cons, List.find?_cons]
    by_cases e : p.1 = s
    · simp [e]
    · have h1 : decide (keyP (PyData.str p.1) = some (Sum.inr s)) = false := by simp [e]
      have h2 : decide (p.1 = s) = false := by simp [e]
      rw [h1, h2]
      exact ih
theorem any_mD (s : Str) (kvs : List (Str × Int)) : ((mD kvs).any fun kv => decide (keyP kv.1 = some (Sum.inr s))) = (kvs.any fun p => decide (p.1 = s)) := by
  unfold mD
  rw [List.any_map]
  congr 1
  funext p
  by_cases e : p.1 = s <;> simp [e]
theorem putD_mD (kvs : List (Str × Int)) (s : Str) (n : Int) : putD (mD kvs) (.inr s) (.int n) = mD (putI kvs s n) := by
  unfold putD putI
  rw [any_mD]
  split
  · unfold mD
    rw [List.map_map, List.map_map]
    refine List.map_congr_left fun p _ => ?_
    by_cases e : p.1 = s <;> simp [e]
  · unfold mD
    rw [List.map_append]
    rfl
theorem mD_len (kvs : List (Str × Int)) : (mD kvs).length = kvs.length := by simp [mD]
theorem keysS_mD : ∀ kvs : List (Str × Int), keysS (mD kvs) = some (kvs.map (·.1))
  | [] => rfl
  | p :: kvs => by
    show (keyS (PyData.str p.1)).bind (fun z => (keysS (mD kvs)).map (z :: ·)) = _
    rw [keysS_mD kvs] <;> rfl
end DL
set_option Elab.async false
set_option linter.all false
set_option maxRecDepth 100000
set_option maxHeartbeats 1000000
namespace Kk33
open PySem PySem.Spec PyProof.Rows L2 DL
/-! ### netting, in plain words -/
abbrev O := Str × Str × Int
def valI' (kvs : List (Str × Int)) (s : Str) : Option Int := valI kvs s
theorem valI_putI (kvs : List (Str × Int)) (s z : Str) (n : Int) : valI (putI kvs s n) z = if z = s then some n else valI kvs z := by
  unfold putI
  split
  · rename_i h
    induction kvs with
    | nil => simp at h
    | cons p kvs ih =>
      by_cases e : p.1 = s
      · by_cases ez : z = s
        · subst ez
          simp [valI, List.find?_cons, e]
        · have e2 : ¬ s = z := fun q => ez q.symm
          have hm : ∀ l : List (Str × Int), (l.map fun p => if p.1 = s then (p.1, n) else p).find? (fun p => decide (p.1 = z)) = l.find? fun p => decide (p.1 = z) := fun l => by
            induction l with
            | nil => rfl
            | cons q l ih =>
              rw [List.map_cons, List.find?_cons, List.find?_cons]
              by_cases eq : q.1 = s
              · have h1 : decide (q.1 = z) = false := by simp [eq, e2]
                rw [if_pos eq, h1]
                exact ih
              · rw [if_neg eq]
                by_cases e4 : q.1 = z
                · simp [e4]
                · have h1 : decide (q.1 = z) = false := by simp [e4]
                  rw [h1]
                  exact ih
          unfold valI
          rw [hm, if_neg ez]
      · have h' : (kvs.any fun p => decide (p.1 = s)) = true := by
          rw [List.any_cons] at h
          simpa [e] using h
        have ih := ih h'
        unfold valI at ih ⊢
        rw [List.map_cons, List.find?_cons, List.find?_cons, if_neg e]
        by_cases e4 : p.1 = z
        · have : ¬ z = s := fun q => e (e4.trans q)
          simp [e4, this]
        · have h1 : decide (p.1 = z) = false := by simp [e4]
          rw [h1]
          exact ih
  · rename_i h
    have hn : valI kvs s = none := by
      unfold valI
      rw [Option.map_eq_none_iff, List.find?_eq_none]
      intro p hp hq
      exact h (List.any_eq_true.mpr ⟨p, hp, hq⟩)
    unfold valI at hn ⊢
    rw [List.find?_append]
    by_cases ez : z = s
    · subst ez
      rw [Option.map_eq_none_iff] at hn
      rw [hn]
      simp [List.find?_cons]
    · rw [if_neg ez]
      have h1 : List.find? (fun p => decide (p.1 = z)) [(s, n)] = none := by
        have : ¬ s = z := fun q => ez q.symm
        simp [this]
      rw [h1, Option.or_none]
def keysI (kvs : List (Str × Int)) : List Str := kvs.map (·.1)
theorem keys_putI (kvs : List (Str × Int)) (s : Str) (n : Int) : keysI (putI kvs s n) = if s ∈ keysI kvs then keysI kvs else keysI kvs ++ [s] := by
  unfold putI keysI
  by_cases h : (kvs.any fun p => decide (p.1 = s)) = true
  · have hm : s ∈ kvs.map (·.1) := by
      obtain ⟨p, hp, he⟩ := List.any_eq_true.mp h
      exact List.mem_map.mpr ⟨p, hp, of_decide_eq_true he⟩
    rw [if_pos h, if_pos hm, List.map_map]
    refine List.map_congr_left fun p _ => ?_
    by_cases e : p.1 = s <;> simp [e]
  · have hm : ¬ s ∈ kvs.map (·.1) := fun hm => by
      obtain ⟨p, hp, he⟩ := List.mem_map.mp hm
      exact h (List.any_eq_true.mpr ⟨p, hp, decide_eq_true he⟩)
    rw [if_neg h, if_neg hm, List.map_append]
    rfl
theorem mem_putI (kvs : List (Str × Int)) (s z : Str) (n : Int) : z ∈ keysI (putI kvs s n) ↔ z ∈ keysI kvs ∨ z = s := by
  rw [keys_putI]
  split
  · rename_i h
    exact ⟨.inl, fun q => q.elim id fun e => e ▸ h⟩
  · simp
theorem nd_putI (kvs : List (Str × Int)) (s : Str) (n : Int) (h : (keysI kvs).Nodup) : (keysI (putI kvs s n)).Nodup := by
  rw [keys_putI]
  split
  · exact h
  · rename_i hn
    rw [List.nodup_append]
    refine ⟨h, by simp, fun a ha b hb e => ?_⟩
    rw [List.mem_singleton] at hb
    subst hb
    subst e
    exact hn ha
def stepN (kvs : List (Str × Int)) (o : O) : List (Str × Int) := putI (putI kvs o.1 ((valI kvs o.1).getD 0 - o.2.2)) o.2.1 ((valI (putI kvs o.1 ((valI kvs o.1).getD 0 - o.2.2)) o.2.1).getD 0 + o.2.2)
def kvN (rows : List O) : List (Str × Int) := rows.foldl stepN []
def netO (o : O) (z : Str) : Int := (if z = o.2.1 then o.2.2 else 0) - (if z = o.1 then o.2.2 else 0)
def net : List O → Str → Int
  | [], _ => 0
  | o :: r, z => netO o z + net r z
theorem net_append (a b : List O) (z : Str) : net (a ++ b) z = net a z + net b z := by
  induction a with
  | nil => simp [net]
  | cons o a ih => simp only [List.cons_append, net, ih]; omega
theorem val_step (kvs : List (Str × Int)) (o : O) (z : Str) : (valI (stepN kvs o) z).getD 0 = (valI kvs z).getD 0 + netO o z := by
  unfold stepN netO
  rw [valI_putI, valI_putI, valI_putI]
  by_cases h1 : z = o.2.1
  · rw [if_pos h1, if_pos h1]
    by_cases h2 : z = o.1
    · have h3 : o.2.1 = o.1 := h1.symm.trans h2
      rw [if_pos h2, if_pos h3, h2]
      simp only [Option.getD_some]
      omega
    · have h3 : ¬ o.2.1 = o.1 := fun q => h2 (h1.trans q)
      rw [if_neg h2, if_neg h3, h1]
      simp only [Option.getD_some]
      omega
  · rw [if_neg h1, if_neg h1]
    by_cases h2 : z = o.1
    · rw [if_pos h2, if_pos h2, h2]
      simp only [Option.getD_some]
      omega
    · rw [if_neg h2, if_neg h2]
      omega
theorem val_fold : ∀ (rows : List O) (kvs : List (Str × Int)) (z : Str), (valI (rows.foldl stepN kvs) z).getD 0 = (valI kvs z).getD 0 + net rows z
  | [], kvs, z => by simp [net]
  | o :: r, kvs, z => by
    rw [List.foldl_cons, val_fold r, val_step]
    simp only [net]
    omega
theorem val_kvN (rows : List O) (z : Str) : (valI (kvN rows) z).getD 0 = net rows z := by
  unfold kvN
  rw [val_fold]
  simp [valI]
def nameIn (rows : List O) (z : Str) : Prop := ∃ o ∈ rows, z = o.1 ∨ z = o.2.1
theorem mem_fold : ∀ (rows : List O) (kvs : List (Str × Int)) (z : Str), z ∈ keysI (rows.foldl stepN kvs) ↔ z ∈ keysI kvs ∨ nameIn rows z
  | [], kvs, z => by simp [nameIn]
  | o :: r, kvs, z => by
    rw [List.foldl_cons, mem_fold r]
    unfold stepN
    rw [mem_putI, mem_putI]
    unfold nameIn
    constructor
    · rintro ((( h | h) | h) | ⟨q, hq, h⟩)
      · exact .inl h
      · exact .inr ⟨o, by simp, .inl h⟩
      · exact .inr ⟨o, by simp, .inr h⟩
      · exact .inr ⟨q, by simp [hq], h⟩
    · rintro (h | ⟨q, hq, h⟩)
      · exact .inl (.inl (.inl h))
      · rcases List.mem_cons.mp hq with rfl | hq
        · rcases h with h | h
          · exact .inl (.inl (.inr h))
          · exact .inl (.inr h)
        · exact .inr ⟨q, hq, h⟩
theorem nd_fold : ∀ (rows : List O) (kvs : List (Str × Int)), (keysI kvs).Nodup → (keysI (rows.foldl stepN kvs)).Nodup
  | [], _, h => h
  | o :: r, kvs, h => by
    rw [List.foldl_cons]
    exact nd_fold r _ (nd_putI _ _ _ (nd_putI _ _ _ h))
theorem mem_kvN (rows : List O) (z : Str) : z ∈ keysI (kvN rows) ↔ nameIn rows z := by
  unfold kvN
  rw [mem_fold]
  simp [keysI]
theorem nd_kvN (rows : List O) : (keysI (kvN rows)).Nodup := nd_fold rows [] List.nodup_nil
/-- the names, ascending -/
def nm (rows : List O) : List Str := sortS (keysI (kvN rows))
def dueL (rows : List O) : List (Str × Int) := (nm rows).map fun z => (z, net rows z)
theorem mem_nm (rows : List O) (z : Str) : z ∈ nm rows ↔ nameIn rows z := by
  rw [← mem_kvN]
  exact (List.mergeSort_perm _ _).mem_iff
theorem nd_nm (rows : List O) : (nm rows).Nodup := (List.mergeSort_perm _ _).nodup_iff.mpr (nd_kvN rows)
theorem pw_nm (rows : List O) : (nm rows).Pairwise fun a b => leS a b = true := List.pairwise_mergeSort leS_trans leS_total _
theorem nd_len {α : Type} [DecidableEq α] : ∀ {l m : List α}, l.Nodup → (∀ x ∈ l, x ∈ m) → l.length ≤ m.length
  | [], _, _, _ => Nat.zero_le _
  | x :: l, m, h, hs => by
    obtain ⟨h1, h2⟩ := List.nodup_cons.mp h
    have hx : x ∈ m := hs x (by simp)
    have ih := nd_len (m := m.erase x) h2 fun y hy => (List.mem_erase_of_ne fun e => h1 (by rw [← e]; exact hy)).mpr (hs y (by simp [hy]))
    rw [List.length_erase_of_mem hx] at ih
    have : 0 < m.length := List.length_pos_of_mem hx
    rw [List.length_cons]
    omega
/-! two pointers -/
def tp : List (Str × Int) → List (Str × Int) → List O
  | [], _ => []
  | _, [] => []
  | (a, x) :: gs, (b, y) :: ts => (a, b, min x y) :: if x < y then tp gs ((b, y - x) :: ts) else if x = y then tp gs ts else tp ((a, x - y) :: gs) ts
termination_by l m => l.length + m.length
theorem tp_ind {motive : List (Str × Int) → List (Str × Int) → Prop} (case1 : ∀ ts, motive [] ts) (case2 : ∀ gs, gs ≠ [] → motive gs [])
    (case3 : ∀ a x gs b y ts, x < y → motive gs ((b, y - x) :: ts) → motive ((a, x) :: gs) ((b, y) :: ts)) (case4 : ∀ a x gs b ts, ¬ x < x → motive gs ts → motive ((a, x) :: gs) ((b, x) :: ts))
    (case5 : ∀ a x gs b y ts, ¬ x < y → x ≠ y → motive ((a, x - y) :: gs) ts → motive ((a, x) :: gs) ((b, y) :: ts)) (gs ts : List (Str × Int)) : motive gs ts := by
  induction gs, ts using tp.induct with
  | case1 ts => exact case1 ts
  | case2 gs h => exact case2 gs fun e => by simp [e] at h
  | case3 a x gs b y ts i1 i2 i3 =>
    by_cases h1 : x < y
    · exact case3 _ _ _ _ _ _ h1 i1
    · by_cases h2 : x = y
      · subst h2
        exact case4 _ _ _ _ _ h1 i2
      · exact case5 _ _ _ _ _ _ h1 h2 i3
def sumP (l : List (Str × Int)) : Int := (l.map (·.2)).sum
def posP (l : List (Str × Int)) : Prop := ∀ p ∈ l, 0 < p.2
theorem sumP_cons (p : Str × Int) (l : List (Str × Int)) : sumP (p :: l) = p.2 + sumP l := by simp [sumP]
theorem sumP_nonneg : ∀ {l : List (Str × Int)}, posP l → 0 ≤ sumP l
  | [], _ => by simp [sumP]
  | p :: l, h => by
    have h1 := h p (by simp)
    have h2 := sumP_nonneg (l := l) fun q hq => h q (by simp [hq])
    rw [sumP_cons]
    omega
theorem pos_tail {p : Str × Int} {l : List (Str × Int)} (h : posP (p :: l)) : posP l := fun q hq => h q (by simp [hq])
theorem pos_cons {p : Str × Int} {l : List (Str × Int)} (hp : 0 < p.2) (h : posP l) : posP (p :: l) := fun q hq => by
  rcases List.mem_cons.mp hq with rfl | hq
  · exact hp
  · exact h q hq
theorem ne_of_sum {l : List (Str × Int)} (h : 0 < sumP l) : l ≠ [] := fun e => by
  rw [e] at h
  simp [sumP] at h
theorem tp_len (gs ts : List (Str × Int)) : posP gs → posP ts → sumP gs = sumP ts → gs ≠ [] → (tp gs ts).length + 1 ≤ gs.length + ts.length := by
  induction gs, ts using tp_ind with
  | case1 ts => intro _ _ _ h; exact absurd rfl h
  | case2 gs h =>
    intro hp _ hs hn
    obtain ⟨p, l, rfl⟩ := List.exists_cons_of_ne_nil hn
    have h1 := hp p (by simp)
    have h2 := sumP_nonneg (pos_tail hp)
    rw [sumP_cons] at hs
    simp [sumP] at hs h2
    omega
  | case3 a x gs b y ts hlt ih =>
    intro hp hq hs _
    rw [tp, if_pos hlt]
    rw [sumP_cons, sumP_cons] at hs
    dsimp only at hs
    have h3 : sumP ((b, y - x) :: ts) = sumP gs := by rw [sumP_cons]; dsimp only; omega
    have h4 := sumP_nonneg (pos_tail hq)
    have := ih (pos_tail hp) (pos_cons (by dsimp only; omega) (pos_tail hq)) h3.symm (ne_of_sum (by rw [← h3, sumP_cons]; dsimp only; omega))
    simp only [List.length_cons] at this ⊢
    omega
  | case4 a y gs b ts hlt ih =>
    intro hp hq hs _
    rw [tp, if_neg hlt, if_pos rfl]
    rw [sumP_cons, sumP_cons] at hs
    dsimp only at hs
    by_cases hg : gs = []
    · subst hg
      simp [tp]
      omega
    · have := ih (pos_tail hp) (pos_tail hq) (by omega) hg
      simp only [List.length_cons] at this ⊢
      omega
  | case5 a x gs b y ts hlt hne ih =>
    intro hp hq hs _
    rw [tp, if_neg hlt, if_neg hne]
    rw [sumP_cons, sumP_cons] at hs
    dsimp only at hs
    have := ih (pos_cons (by dsimp only; omega) (pos_tail hp)) (pos_tail hq) (by rw [sumP_cons]; dsimp only; omega) (by simp)
    simp only [List.length_cons] at this ⊢
    omega
theorem tp_sum (gs ts : List (Str × Int)) : posP gs → posP ts → sumP gs = sumP ts → ((tp gs ts).map (·.2.2)).sum = sumP gs := by
  induction gs, ts using tp_ind with
  | case1 ts => intro _ _ _; simp [tp, sumP]
  | case2 gs h =>
    intro hp _ hs
    have e : tp gs [] = [] := by cases gs <;> simp [tp]
    rw [e, hs]
    simp [sumP]
  | case3 a x gs b y ts hlt ih =>
    intro hp hq hs
    rw [tp, if_pos hlt]
    rw [sumP_cons, sumP_cons] at hs
    dsimp only at hs
    have := ih (pos_tail hp) (pos_cons (by dsimp only; omega) (pos_tail hq)) (by rw [sumP_cons]; dsimp only; omega)
    rw [List.map_cons, List.sum_cons, this, sumP_cons]
    dsimp only
    omega
  | case4 a y gs b ts hlt ih =>
    intro hp hq hs
    rw [tp, if_neg hlt, if_pos rfl]
    rw [sumP_cons, sumP_cons] at hs
    dsimp only at hs
    have := ih (pos_tail hp) (pos_tail hq) (by omega)
    rw [List.map_cons, List.sum_cons, this, sumP_cons]
    dsimp only
    omega
  | case5 a x gs b y ts hlt hne ih =>
    intro hp hq hs
    rw [tp, if_neg hlt, if_neg hne]
    rw [sumP_cons, sumP_cons] at hs
    dsimp only at hs
    have := ih (pos_cons (by dsimp only; omega) (pos_tail hp)) (pos_tail hq) (by rw [sumP_cons]; dsimp only; omega)
    rw [List.map_cons, List.sum_cons, this, sumP_cons, sumP_cons]
    dsimp only
    omega
/-- what a name has in a list -/
def sumOf : List (Str × Int) → Str → Int
  | [], _ => 0
  | p :: l, z => (if z = p.1 then p.2 else 0) + sumOf l z
theorem tp_net (gs ts : List (Str × Int)) (z : Str) : posP gs → posP ts → sumP gs = sumP ts → net (tp gs ts) z = sumOf ts z - sumOf gs z := by
  have zero : ∀ {l : List (Str × Int)}, posP l → sumP l = 0 → l = [] := fun {l} hp hs => by
    cases l with
    | nil => rfl
    | cons p l =>
      have h1 := hp p (by simp)
      have h2 := sumP_nonneg (pos_tail hp)
      rw [sumP_cons] at hs
      omega
  induction gs, ts using tp_ind with
  | case1 ts =>
    intro _ hq hs
    have e : ts = [] := zero hq (by rw [← hs]; simp [sumP])
    subst e
    simp [tp, net, sumOf]
  | case2 gs h =>
    intro hp _ hs
    have e : gs = [] := zero hp (by rw [hs]; simp [sumP])
    subst e
    simp [tp, net, sumOf]
  | case3 a x gs b y ts hlt ih =>
    intro hp hq hs
    rw [tp, if_pos hlt]
    rw [sumP_cons, sumP_cons] at hs
    dsimp only at hs
    have := ih (pos_tail hp) (pos_cons (by dsimp only; omega) (pos_tail hq)) (by rw [sumP_cons]; dsimp only; omega)
    simp only [net, netO, sumOf, this]
    split <;> split <;> omega
  | case4 a y gs b ts hlt ih =>
    intro hp hq hs
    rw [tp, if_neg hlt, if_pos rfl]
    rw [sumP_cons, sumP_cons] at hs
    dsimp only at hs
    have := ih (pos_tail hp) (pos_tail hq) (by omega)
    simp only [net, netO, sumOf, this]
    split <;> split <;> omega
  | case5 a x gs b y ts hlt hne ih =>
    intro hp hq hs
    rw [tp, if_neg hlt, if_neg hne]
    rw [sumP_cons, sumP_cons] at hs
    dsimp only at hs
    have := ih (pos_cons (by dsimp only; omega) (pos_tail hp)) (pos_tail hq) (by rw [sumP_cons]; dsimp only; omega)
    simp only [net, netO, sumOf, this]
    split <;> split <;> omega
theorem tp_names (gs ts : List (Str × Int)) : ∀ o ∈ tp gs ts, (∃ p ∈ gs, p.1 = o.1) ∧ ∃ p ∈ ts, p.1 = o.2.1 := by
  induction gs, ts using tp_ind with
  | case1 ts => simp [tp]
  | case2 gs h =>
    have e : tp gs [] = [] := by cases gs <;> simp [tp]
    rw [e]
    simp
  | case3 a x gs b y ts hlt ih =>
    rw [tp, if_pos hlt]
    intro o ho
    rcases List.mem_cons.mp ho with rfl | ho
    · exact ⟨⟨_, List.mem_cons_self .., rfl⟩, ⟨_, List.mem_cons_self .., rfl⟩⟩
    · obtain ⟨⟨p, hp, e1⟩, q, hq, e2⟩ := ih o ho
      refine ⟨⟨p, List.mem_cons_of_mem _ hp, e1⟩, ?_⟩
      rcases List.mem_cons.mp hq with rfl | hq
      · exact ⟨_, List.mem_cons_self .., e2⟩
      · exact ⟨q, List.mem_cons_of_mem _ hq, e2⟩
  | case4 a y gs b ts hlt ih =>
    rw [tp, if_neg hlt, if_pos rfl]
    intro o ho
    rcases List.mem_cons.mp ho with rfl | ho
    · exact ⟨⟨_, List.mem_cons_self .., rfl⟩, ⟨_, List.mem_cons_self .., rfl⟩⟩
    · obtain ⟨⟨p, hp, e1⟩, q, hq, e2⟩ := ih o ho
      exact ⟨⟨p, List.mem_cons_of_mem _ hp, e1⟩, q, List.mem_cons_of_mem _ hq, e2⟩
  | case5 a x gs b y ts hlt hne ih =>
    rw [tp, if_neg hlt, if_neg hne]
    intro o ho
    rcases List.mem_cons.mp ho with rfl | ho
    · exact ⟨⟨_, List.mem_cons_self .., rfl⟩, ⟨_, List.mem_cons_self .., rfl⟩⟩
    · obtain ⟨⟨p, hp, e1⟩, q, hq, e2⟩ := ih o ho
      refine ⟨?_, q, List.mem_cons_of_mem _ hq, e2⟩
      rcases List.mem_cons.mp hp with rfl | hp
      · exact ⟨_, List.mem_cons_self .., e1⟩
      · exact ⟨p, List.mem_cons_of_mem _ hp, e1⟩
end Kk33
set_option Elab.async false
set_option linter.all false
set_option maxRecDepth 100000
set_option maxHeartbeats 1000000
namespace Kk33
open PySem PySem.Spec PyProof.Rows L2 DL
/-! ### what is left, by names -/
def giveL (v : Str → Int) (N : List Str) : List (Str × Int) := N.filterMap fun z => if v z < 0 then some (z, -v z) else none
def getL (v : Str → Int) (N : List Str) : List (Str × Int) := N.filterMap fun z => if 0 < v z then some (z, v z) else none
def updV (v : Str → Int) (g : Str) (n : Int) : Str → Int := fun z => if z = g then n else v z
theorem fm_nil {f : Str → Option (Str × Int)} : ∀ {N : List Str}, (∀ z ∈ N, f z = none) → N.filterMap f = []
  | [], _ => rfl
  | z :: N, h => by
    rw [List.filterMap_cons, h z (by simp)]
    exact fm_nil fun y hy => h y (by simp [hy])
theorem fm_congr {f g : Str → Option (Str × Int)} : ∀ {N : List Str}, (∀ z ∈ N, f z = g z) → N.filterMap f = N.filterMap g
  | [], _ => rfl
  | z :: N, h => by
    rw [List.filterMap_cons, List.filterMap_cons, h z (by simp), fm_congr fun y hy => h y (by simp [hy])]
theorem give_pos (v : Str → Int) (N : List Str) : posP (giveL v N) := fun p hp => by
  obtain ⟨z, _, h⟩ := List.mem_filterMap.mp hp
  split at h
  · cases h
    dsimp only
    omega
  · cases h
theorem get_pos (v : Str → Int) (N : List Str) : posP (getL v N) := fun p hp => by
  obtain ⟨z, _, h⟩ := List.mem_filterMap.mp hp
  split at h
  · cases h
    assumption
  · cases h
theorem give_nil {v : Str → Int} {N : List Str} (h : ∀ z ∈ N, 0 ≤ v z) : giveL v N = [] := fm_nil fun z hz => if_neg (by have := h z hz; omega)
theorem get_nil {v : Str → Int} {N : List Str} (h : ∀ z ∈ N, v z ≤ 0) : getL v N = [] := fm_nil fun z hz => if_neg (by have := h z hz; omega)
theorem give_nil' {v : Str → Int} {N : List Str} (h : giveL v N = []) : ∀ z ∈ N, 0 ≤ v z := fun z hz => by
  by_cases c : v z < 0
  · have : (z, -v z) ∈ giveL v N := List.mem_filterMap.mpr ⟨z, hz, if_pos c⟩
    rw [h] at this
    cases this
  · omega
theorem pos_zero {l : List (Str × Int)} (hp : posP l) (hs : sumP l = 0) : l = [] := by
  cases l with
  | nil => rfl
  | cons p l =>
    have h1 := hp p (by simp)
    have h2 := sumP_nonneg (pos_tail hp)
    rw [sumP_cons] at hs
    omega
theorem give_split {v : Str → Int} {pre post : List Str} {g : Str} (hpre : ∀ z ∈ pre, 0 ≤ v z) (hg : v g < 0) : giveL v (pre ++ g :: post) = (g, -v g) :: giveL v post := by
  unfold giveL
  rw [List.filterMap_append, List.filterMap_cons, if_pos hg]
  have := give_nil hpre
  unfold giveL at this
  rw [this]
  rfl
theorem get_split {v : Str → Int} {pre post : List Str} {g : Str} (hpre : ∀ z ∈ pre, v z ≤ 0) (hg : 0 < v g) : getL v (pre ++ g :: post) = (g, v g) :: getL v post := by
  unfold getL
  rw [List.filterMap_append, List.filterMap_cons, if_pos hg]
  have := get_nil hpre
  unfold getL at this
  rw [this]
  rfl
theorem get_skip {v : Str → Int} {pre post : List Str} {g : Str} (hpre : ∀ z ∈ pre, v z ≤ 0) (hg : v g ≤ 0) : getL v (pre ++ g :: post) = getL v post := by
  unfold getL
  rw [List.filterMap_append, List.filterMap_cons, if_neg (by omega)]
  have := get_nil hpre
  unfold getL at this
  rw [this]
  rfl
theorem give_skip {v : Str → Int} {pre post : List Str} {g : Str} (hpre : ∀ z ∈ pre, 0 ≤ v z) (hg : 0 ≤ v g) : giveL v (pre ++ g :: post) = giveL v post := by
  unfold giveL
  rw [List.filterMap_append, List.filterMap_cons, if_neg (by omega)]
  have := give_nil hpre
  unfold giveL at this
  rw [this]
  rfl
def part (v : Str → Int) (g t : Str) : Int := min (-(v g)) (v t)
def moved (v : Str → Int) (g t : Str) : Str → Int := updV (updV v g (v g + part v g t)) t (updV v g (v g + part v g t) t - part v g t)
theorem moved_at {v : Str → Int} {g t : Str} (ne : g ≠ t) (z : Str) : moved v g t z = if z = t then v t - part v g t else if z = g then v g + part v g t else v z := by
  unfold moved updV
  split
  · rw [if_neg (Ne.symm ne)]
  · rfl
structure Mid (N : List Str) (T : List O) (i j : Nat) (g : Str) (v : Str → Int) (found : List O) : Prop where
  a : ∀ z ∈ N.take i, 0 ≤ v z
  b : 0 ≤ v g ∨ ∀ z ∈ N.take j, v z ≤ 0
  c : sumP (giveL v N) = sumP (getL v N)
  d : found ++ tp (giveL v N) (getL v N) = T
theorem take_split {N : List Str} {i : Nat} {g : Str} (h : N[i]? = some g) : N = N.take i ++ g :: N.drop (i + 1) := by
  obtain ⟨hl, e⟩ := List.getElem?_eq_some_iff.mp h
  rw [← e, ← List.drop_eq_getElem_cons hl, List.take_append_drop]
theorem take_one {N : List Str} {i : Nat} {g : Str} (h : N[i]? = some g) : N.take (i + 1) = N.take i ++ [g] := by
  rw [List.take_succ, h]
  rfl
theorem nd_split {pre post : List Str} {g : Str} (h : (pre ++ g :: post).Nodup) : g ∉ pre ∧ g ∉ post := by
  rw [List.nodup_append] at h
  obtain ⟨_, h2, h3⟩ := h
  exact ⟨fun hg => h3 g hg g (by simp) rfl, (List.nodup_cons.mp h2).1⟩
theorem visit_no {N : List Str} {T : List O} {i j : Nat} {g t : Str} {v : Str → Int} {found : List O} (m : Mid N T i j g v found) (ht : N[j]? = some t) (hp : ¬ 0 < part v g t) : Mid N T i (j + 1) g v found := by
  refine ⟨m.a, ?_, m.c, m.d⟩
  by_cases hg : 0 ≤ v g
  · exact .inl hg
  · refine .inr fun z hz => ?_
    rw [take_one ht] at hz
    rcases List.mem_append.mp hz with hz | hz
    · exact (m.b.resolve_left hg) z hz
    · rw [List.mem_singleton] at hz
      subst hz
      unfold part at hp
      omega
theorem visit_yes {N : List Str} (nd : N.Nodup) {T : List O} {i j : Nat} {g t : Str} {v : Str → Int} {found : List O} (m : Mid N T i j g v found) (hg : N[i]? = some g) (ht : N[j]? = some t) (hp : 0 < part v g t) :
    Mid N T i (j + 1) g (moved v g t) (found ++ [(g, t, part v g t)]) ∧ g ≠ t := by
  have p1 : v g < 0 := by unfold part at hp; omega
  have p2 : 0 < v t := by unfold part at hp; omega
  have p3 : part v g t ≤ -(v g) := by unfold part; omega
  have p4 : part v g t ≤ v t := by unfold part; omega
  have p5 : part v g t = -(v g) ∨ part v g t = v t := by unfold part; omega
  have ne : g ≠ t := fun e => by
    rw [e] at p1
    omega
  refine ⟨?_, ne⟩
  have hb := m.b.resolve_left (by omega)
  have e1 := take_split hg
  have e2 := take_split ht
  have hpre := m.a
  obtain ⟨pre, hpd⟩ : ∃ p, p = N.take i := ⟨_, rfl⟩
  obtain ⟨post, hpo⟩ : ∃ p, p = N.drop (i + 1) := ⟨_, rfl⟩
  rw [← hpd] at hpre e1
  rw [← hpo] at e1
  have nd1 := nd
  rw [e1] at nd1
  obtain ⟨n1, n2⟩ := nd_split nd1
  have nd2 := nd
  rw [e2] at nd2
  obtain ⟨n3, n4⟩ := nd_split nd2
  have mv := moved_at (v := v) ne
  have mg : moved v g t g = v g + part v g t := by rw [mv, if_neg ne, if_pos rfl]
  have mt : moved v g t t = v t - part v g t := by rw [mv, if_pos rfl]
  have mo : ∀ z, z ≠ g → z ≠ t → moved v g t z = v z := fun z h1 h2 => by rw [mv, if_neg h2, if_neg h1]
  have G0 : giveL v N = (g, -v g) :: giveL v post := by
    rw [e1]
    exact give_split hpre p1
  have T0 : getL v N = (t, v t) :: getL v (N.drop (j + 1)) := by
    have := get_split (v := v) (pre := N.take j) (post := N.drop (j + 1)) (g := t) hb p2
    rw [← e2] at this
    exact this
  have pre' : ∀ z ∈ pre, 0 ≤ moved v g t z := fun z hz => by
    by_cases h2 : z = t
    · rw [h2, mt]
      omega
    · rw [mo z (fun e => n1 (e ▸ hz)) h2]
      exact hpre z hz
  have Gp : giveL (moved v g t) post = giveL v post := fm_congr fun z hz => by
    by_cases h2 : z = t
    · rw [h2, mt, if_neg (by omega), if_neg (by omega)]
    · rw [mo z (fun e => n2 (e ▸ hz)) h2]
  have tk' : ∀ z ∈ N.take j, moved v g t z ≤ 0 := fun z hz => by
    by_cases h2 : z = g
    · rw [h2, mg]
      omega
    · rw [mo z h2 (fun e => n3 (e ▸ hz))]
      exact hb z hz
  have Tp : getL (moved v g t) (N.drop (j + 1)) = getL v (N.drop (j + 1)) := fm_congr fun z hz => by
    by_cases h2 : z = g
    · rw [h2, mg, if_neg (by omega), if_neg (by omega)]
    · rw [mo z h2 (fun e => n4 (e ▸ hz))]
  have G1 : giveL (moved v g t) N = if -v g = part v g t then giveL v post else (g, -v g - part v g t) :: giveL v post := by
    rw [e1]
    by_cases h : -v g = part v g t
    · rw [if_pos h, give_skip pre' (by rw [mg]; omega), Gp]
    · rw [if_neg h, give_split pre' (by rw [mg]; omega), Gp, mg]
      congr 2
      omega
  have T1 : getL (moved v g t) N = if v t = part v g t then getL v (N.drop (j + 1)) else (t, v t - part v g t) :: getL v (N.drop (j + 1)) := by
    by_cases h : v t = part v g t
    · have := get_skip (v := moved v g t) (pre := N.take j) (post := N.drop (j + 1)) (g := t) tk' (by rw [mt]; omega)
      rw [← e2] at this
      rw [if_pos h, this, Tp]
    · have := get_split (v := moved v g t) (pre := N.take j) (post := N.drop (j + 1)) (g := t) tk' (by rw [mt]; omega)
      rw [← e2] at this
      rw [if_neg h, this, Tp, mt]
  refine ⟨by rw [← hpd]; exact pre', ?_, ?_, ?_⟩
  · by_cases h : -v g = part v g t
    · exact .inl (by rw [mg]; omega)
    · refine .inr fun z hz => ?_
      rw [take_one ht] at hz
      rcases List.mem_append.mp hz with hz | hz
      · exact tk' z hz
      · rw [List.mem_singleton] at hz
        rw [hz, mt]
        omega
  · have c := m.c
    rw [G0, T0, sumP_cons, sumP_cons] at c
    rw [G1, T1]
    dsimp only at c
    split <;> split
    · omega
    · rw [sumP_cons]
      dsimp only
      omega
    · rw [sumP_cons]
      dsimp only
      omega
    · rw [sumP_cons, sumP_cons]
      dsimp only
      omega
  · have d := m.d
    rw [G0, T0, tp] at d
    rw [← d, G1, T1, List.append_assoc]
    congr 1
    have pe : min (-v g) (v t) = part v g t := rfl
    rw [pe]
    show (g, t, part v g t) :: _ = _
    congr 1
    by_cases h1 : -v g < v t
    · have q1 : -v g = part v g t := by rw [← pe]; omega
      have q2 : v t - -v g = v t - part v g t := by omega
      rw [if_pos h1, if_pos q1, if_neg (by omega), q2]
      rfl
    · by_cases h2 : -v g = v t
      · have q1 : -v g = part v g t := by rw [← pe]; omega
        rw [if_neg h1, if_pos h2, if_pos q1, if_pos (by omega)]
        rfl
      · have q1 : v t = part v g t := by rw [← pe]; omega
        have q2 : -v g - v t = -v g - part v g t := by omega
        rw [if_neg h1, if_neg h2, if_neg (by omega), if_pos q1, q2]
        rfl
theorem mid_end {N : List Str} {T : List O} {i : Nat} {g : Str} {v : Str → Int} {found : List O} (m : Mid N T i N.length g v found) (hg : N[i]? = some g) : ∀ z ∈ N.take (i + 1), 0 ≤ v z := by
  have h0 : 0 ≤ v g := by
    rcases m.b with h | h
    · exact h
    · rw [List.take_length] at h
      have c := m.c
      rw [get_nil h] at c
      have := pos_zero (give_pos v N) (by rw [c]; simp [sumP])
      exact give_nil' this g (List.mem_of_getElem? hg)
  rw [take_one hg]
  intro z hz
  rcases List.mem_append.mp hz with hz | hz
  · exact m.a z hz
  · rw [List.mem_singleton] at hz
    rw [hz]
    exact h0
/-! sums -/
theorem sum_if {b : Str} {n : Int} : ∀ {N : List Str}, N.Nodup → b ∈ N → (N.map fun z => if z = b then n else 0).sum = n
  | z :: N, h, hb => by
    obtain ⟨h1, h2⟩ := List.nodup_cons.mp h
    rw [List.map_cons, List.sum_cons]
    by_cases e : z = b
    · subst e
      have z0 : ∀ {M : List Str}, z ∉ M → (M.map fun y => if y = z then n else 0).sum = 0 := fun {M} hM => by
        induction M with
        | nil => rfl
        | cons y M ih =>
          rw [List.map_cons, List.sum_cons, ih fun q => hM (by simp [q]), if_neg fun e => hM (by simp [e])]
          rfl
      rw [if_pos rfl, z0 h1]
      omega
    · have := sum_if (n := n) h2 ((List.mem_cons.mp hb).resolve_left fun q => e q.symm)
      rw [if_neg e, this]
      omega
theorem sum_add (f g : Str → Int) (N : List Str) : (N.map fun z => f z + g z).sum = (N.map f).sum + (N.map g).sum := by
  induction N with
  | nil => rfl
  | cons z N ih =>
    simp only [List.map_cons, List.sum_cons, ih]
    omega
theorem sum_sub (f g : Str → Int) (N : List Str) : (N.map fun z => f z - g z).sum = (N.map f).sum - (N.map g).sum := by
  induction N with
  | nil => rfl
  | cons z N ih =>
    simp only [List.map_cons, List.sum_cons, ih]
    omega
theorem net_sum {N : List Str} (nd : N.Nodup) : ∀ {rows : List O}, (∀ z, nameIn rows z → z ∈ N) → (N.map (net rows)).sum = 0
  | [], _ => by
    show (N.map fun _ => (0 : Int)).sum = 0
    induction N with
    | nil => rfl
    | cons z N ih =>
      rw [List.map_cons, List.sum_cons, ih (List.nodup_cons.mp nd).2 (fun z ⟨o, ho, _⟩ => by cases ho)]
      rfl
  | o :: r, h => by
    have ih := net_sum nd (rows := r) fun z ⟨q, hq, e⟩ => h z ⟨q, by simp [hq], e⟩
    show (N.map fun z => netO o z + net r z).sum = 0
    rw [sum_add, ih]
    unfold netO
    rw [sum_sub, sum_if nd (h _ ⟨o, by simp, .inr rfl⟩), sum_if nd (h _ ⟨o, by simp, .inl rfl⟩)]
    omega
theorem sum_lists (v : Str → Int) (N : List Str) : (N.map v).sum = sumP (getL v N) - sumP (giveL v N) := by
  induction N with
  | nil => rfl
  | cons z N ih =>
    have hg : getL v (z :: N) = if 0 < v z then (z, v z) :: getL v N else getL v N := by
      unfold getL
      rw [List.filterMap_cons]
      split <;> simp_all
    have hh : giveL v (z :: N) = if v z < 0 then (z, -v z) :: giveL v N else giveL v N := by
      unfold giveL
      rw [List.filterMap_cons]
      split <;> simp_all
    rw [List.map_cons, List.sum_cons, ih, hg, hh]
    split <;> split <;> (try simp only [sumP_cons]) <;> omega
theorem sums_eq (rows : List O) : sumP (giveL (net rows) (nm rows)) = sumP (getL (net rows) (nm rows)) := by
  have h1 := net_sum (nd_nm rows) (rows := rows) fun z hz => (mem_nm rows z).mpr hz
  rw [sum_lists] at h1
  omega
/-- what is told to be netted -/
def toldL (rows : List O) : List O := tp (giveL (net rows) (nm rows)) (getL (net rows) (nm rows))
theorem mid_start (rows : List O) : ∀ z ∈ (nm rows).take 0, 0 ≤ net rows z := by simp
theorem sumOf_get (v : Str → Int) (z : Str) : ∀ {N : List Str}, N.Nodup → sumOf (getL v N) z - sumOf (giveL v N) z = if z ∈ N then v z else 0
  | [], _ => rfl
  | y :: N, h => by
    obtain ⟨h1, h2⟩ := List.nodup_cons.mp h
    have ih := sumOf_get v z h2
    have hg : sumOf (getL v (y :: N)) z = (if z = y then (if 0 < v y then v y else 0) else 0) + sumOf (getL v N) z := by
      unfold getL
      rw [List.filterMap_cons]
      by_cases c : 0 < v y
      · rw [if_pos c, if_pos c]
        rfl
      · rw [if_neg c, if_neg c]
        show sumOf (List.filterMap _ N) z = _
        split <;> omega
    have hh : sumOf (giveL v (y :: N)) z = (if z = y then (if v y < 0 then -v y else 0) else 0) + sumOf (giveL v N) z := by
      unfold giveL
      rw [List.filterMap_cons]
      by_cases c : v y < 0
      · rw [if_pos c, if_pos c]
        rfl
      · rw [if_neg c, if_neg c]
        show sumOf (List.filterMap _ N) z = _
        split <;> omega
    rw [hg, hh]
    by_cases e : z = y
    · subst e
      rw [if_neg h1] at ih
      have hm : (if z ∈ z :: N then v z else 0) = v z := if_pos (by simp)
      rw [hm, if_pos rfl, if_pos rfl]
      split <;> split <;> omega
    · have hm : (if z ∈ y :: N then v z else 0) = if z ∈ N then v z else 0 := by
        by_cases h3 : z ∈ N
        · rw [if_pos h3, if_pos (by simp [h3])]
        · rw [if_neg h3, if_neg (by simp [h3, e])]
      rw [hm, if_neg e, if_neg e, ← ih]
      omega
theorem net_none {rows : List O} {z : Str} (h : ¬ nameIn rows z) : net rows z = 0 := by
  induction rows with
  | nil => rfl
  | cons o r ih =>
    have h1 := ih fun ⟨q, hq, e⟩ => h ⟨q, by simp [hq], e⟩
    have h2 : z ≠ o.1 := fun e => h ⟨o, by simp, .inl e⟩
    have h3 : z ≠ o.2.1 := fun e => h ⟨o, by simp, .inr e⟩
    simp only [net, netO, if_neg h2, if_neg h3, h1]
    omega
theorem net_told (rows : List O) (z : Str) : net (toldL rows) z = net rows z := by
  unfold toldL
  rw [tp_net _ _ _ (give_pos _ _) (get_pos _ _) (sums_eq rows), sumOf_get _ _ (nd_nm rows)]
  split
  · rfl
  · rename_i h
    exact (net_none fun q => h ((mem_nm rows z).mpr q)).symm
theorem name_told (rows : List O) (z : Str) : nameIn (toldL rows) z ↔ z ∈ nm rows ∧ net rows z ≠ 0 := by
  constructor
  · rintro ⟨o, ho, e⟩
    obtain ⟨⟨p, hp, e1⟩, q, hq, e2⟩ := tp_names _ _ o ho
    rcases e with rfl | rfl
    · obtain ⟨y, hy, h⟩ := List.mem_filterMap.mp hp
      split at h
      · cases h
        rw [← e1]
        exact ⟨hy, by show net rows y ≠ 0; omega⟩
      · cases h
    · obtain ⟨y, hy, h⟩ := List.mem_filterMap.mp hq
      split at h
      · cases h
        rw [← e2]
        exact ⟨hy, by show net rows y ≠ 0; omega⟩
      · cases h
  · rintro ⟨h1, h2⟩
    refine Classical.byContradiction fun hn => h2 ?_
    rw [← net_told]
    exact net_none hn
theorem due_told (rows : List O) : dueL (toldL rows) = (dueL rows).filter fun p => decide (p.2 ≠ 0) := by
  have e : nm (toldL rows) = (nm rows).filter fun z => decide (net rows z ≠ 0) := by
    refine List.Perm.eq_of_pairwise (le := fun a b => leS a b = true) (fun a b _ _ x y => leS_anti x y) (pw_nm _) ((pw_nm rows).sublist List.filter_sublist) ?_
    refine (List.perm_ext_iff_of_nodup (nd_nm _) ((nd_nm rows).sublist List.filter_sublist)).mpr fun z => ?_
    rw [mem_nm, name_told, List.mem_filter]
    simp
  unfold dueL
  rw [e, List.filter_map]
  refine List.map_congr_left fun z _ => ?_
  rw [net_told]
theorem told_sum (rows : List O) : ((toldL rows).map (·.2.2)).sum = (((dueL rows).filter fun p => decide (0 < p.2)).map (·.2)).sum := by
  unfold toldL
  rw [tp_sum _ _ (give_pos _ _) (get_pos _ _) (sums_eq rows), sums_eq]
  unfold dueL
  generalize net rows = v
  generalize nm rows = N
  induction N with
  | nil => rfl
  | cons z N ih =>
    have hg : getL v (z :: N) = if 0 < v z then (z, v z) :: getL v N else getL v N := by
      unfold getL
      rw [List.filterMap_cons]
      split <;> simp_all
    rw [hg, List.map_cons, List.filter_cons]
    by_cases h : 0 < v z
    · rw [if_pos h, if_pos (decide_eq_true h), sumP_cons, ih]
      rfl
    · rw [if_neg h, if_neg (by simpa using h), ih]
theorem told_len (rows : List O) (h : toldL rows ≠ []) : (toldL rows).length < ((dueL rows).filter fun p => decide (p.2 ≠ 0)).length := by
  have hn : giveL (net rows) (nm rows) ≠ [] := fun e => h (by unfold toldL; rw [e, tp])
  have h1 := tp_len _ _ (give_pos _ _) (get_pos _ _) (sums_eq rows) hn
  have h2 : ∀ (v : Str → Int) (N : List Str), ((N.map fun z => (z, v z)).filter fun p => decide (p.2 ≠ 0)).length = (giveL v N).length + (getL v N).length := fun v N => by
    induction N with
    | nil => rfl
    | cons z N ih =>
      have hg : getL v (z :: N) = if 0 < v z then (z, v z) :: getL v N else getL v N := by
        unfold getL
        rw [List.filterMap_cons]
        split <;> simp_all
      have hh : giveL v (z :: N) = if v z < 0 then (z, -v z) :: giveL v N else giveL v N := by
        unfold giveL
        rw [List.filterMap_cons]
        split <;> simp_all
      rw [hg, hh, List.map_cons, List.filter_cons]
      by_cases c : v z = 0
      · rw [if_neg (by simpa using c), ih, if_neg (by omega), if_neg (by omega)]
      · rw [if_pos (by simpa using c), List.length_cons, ih]
        split <;> split <;> (try simp only [List.length_cons]) <;> omega
  have h3 := h2 (net rows) (nm rows)
  unfold dueL
  rw [h3]
  unfold toldL
  omega
end Kk33
set_option Elab.async false
set_option linter.all false
set_option maxRecDepth 100000
set_option maxHeartbeats 4000000
namespace Kk33
open PySem PySem.Spec PyProof.Rows L2 DL
def top (i : Nat) : Stmt := PySem.Challenge.pw_tonnewise_k33_whole_netting.main.body.getD i (.Pass ⟨0, 0, 0, 0⟩)
abbrev s_is_integer : Stmt := top 6
abbrev s_is_in : Stmt := top 7
abbrev s_is_name : Stmt := top 8
abbrev s_is_tuple_of : Stmt := top 9
abbrev s_are_at_most : Stmt := top 10
abbrev s_demand : Stmt := top 11
abbrev s_sorted_dict : Stmt := top 12
abbrev s_is_owing : Stmt := top 16
abbrev s_are_owings : Stmt := top 17
abbrev s_nets_of : Stmt := top 18
abbrev s_nets : Stmt := top 19
abbrev s_netted : Stmt := top 20
abbrev s__law_dice : Stmt := top 22
abbrev s__law_roll : Stmt := top 23
abbrev s__law_pick : Stmt := top 24
abbrev s__law_refused : Stmt := top 25
abbrev s__law_own_nets : Stmt := top 26
abbrev s__law_by_rule : Stmt := top 27
abbrev s__law_right : Stmt := top 28
abbrev s_law : Stmt := top 29
theorem sc_is_integer : FnScope ["value"] ["value"] (defScope s_is_integer) := ⟨rfl, rfl, rfl, by decide +kernel, rfl, by decide +kernel, by decide +kernel⟩
theorem sc_is_in : FnScope ["value", "low", "high"] ["value", "low", "high"] (defScope s_is_in) := ⟨rfl, rfl, rfl, by decide +kernel, rfl, by decide +kernel, by decide +kernel⟩
theorem sc_is_name : FnScope ["value", "sign"] ["value"] (defScope s_is_name) := ⟨rfl, rfl, rfl, by decide +kernel, rfl, by decide +kernel, by decide +kernel⟩
theorem sc_is_tuple_of : FnScope ["value", "many"] ["value", "many"] (defScope s_is_tuple_of) := ⟨rfl, rfl, rfl, by decide +kernel, rfl, by decide +kernel, by decide +kernel⟩
theorem sc_are_at_most : FnScope ["value", "many"] ["value", "many"] (defScope s_are_at_most) := ⟨rfl, rfl, rfl, by decide +kernel, rfl, by decide +kernel, by decide +kernel⟩
theorem sc_demand : FnScope ["is_good", "name"] ["is_good", "name"] (defScope s_demand) := ⟨rfl, rfl, rfl, by decide +kernel, rfl, by decide +kernel, by decide +kernel⟩
theorem sc_sorted_dict : FnScope ["found", "key"] ["found"] (defScope s_sorted_dict) := ⟨rfl, rfl, rfl, by decide +kernel, rfl, by decide +kernel, by decide +kernel⟩
theorem sc_is_owing : FnScope ["value"] ["value"] (defScope s_is_owing) := ⟨rfl, rfl, rfl, by decide +kernel, rfl, by decide +kernel, by decide +kernel⟩
theorem sc_are_owings : FnScope ["value", "owing"] ["value"] (defScope s_are_owings) := ⟨rfl, rfl, rfl, by decide +kernel, rfl, by decide +kernel, by decide +kernel⟩
theorem sc_nets_of : FnScope ["owings", "found", "giver", "getter", "many"] ["owings"] (defScope s_nets_of) := ⟨rfl, rfl, rfl, by decide +kernel, rfl, by decide +kernel, by decide +kernel⟩
theorem sc_nets : FnScope ["owings"] ["owings"] (defScope s_nets) := ⟨rfl, rfl, rfl, by decide +kernel, rfl, by decide +kernel, by decide +kernel⟩
theorem sc_netted : FnScope ["owings", "left", "found", "giver", "getter", "part"] ["owings"] (defScope s_netted) := ⟨rfl, rfl, rfl, by decide +kernel, rfl, by decide +kernel, by decide +kernel⟩
theorem sc__law_dice : FnScope ["script", "spot", "own", "mixed", "cell"] ["script", "spot"] (defScope s__law_dice) := ⟨rfl, rfl, rfl, by decide +kernel, rfl, by decide +kernel, by decide +kernel⟩
theorem sc__law_roll : FnScope ["dice", "total", "found"] ["dice", "total"] (defScope s__law_roll) := ⟨rfl, rfl, rfl, by decide +kernel, rfl, by decide +kernel, by decide +kernel⟩
theorem sc__law_pick : FnScope ["dice", "things"] ["dice", "things"] (defScope s__law_pick) := ⟨rfl, rfl, rfl, by decide +kernel, rfl, by decide +kernel, by decide +kernel⟩
theorem sc__law_refused : FnScope ["call", "e"] ["call"] (defScope s__law_refused) := ⟨rfl, rfl, rfl, by decide +kernel, rfl, by decide +kernel, by decide +kernel⟩
theorem sc__law_own_nets : FnScope ["owings", "found", "giver", "getter", "many", "name"] ["owings"] (defScope s__law_own_nets) := ⟨rfl, rfl, rfl, by decide +kernel, rfl, by decide +kernel, by decide +kernel⟩
theorem sc__law_by_rule : FnScope ["rows", "give", "get", "found", "turn", "part", "name", "net"] ["rows"] (defScope s__law_by_rule) := ⟨rfl, rfl, rfl, by decide +kernel, rfl, by decide +kernel, by decide +kernel⟩
theorem sc__law_right : FnScope ["dice", "names", "rows", "turn", "one", "two", "due", "told", "found", "moved", "bad", "name", "pair", "giver", "getter", "many", "net"] ["dice"] (defScope s__law_right) := ⟨rfl, rfl, rfl, by decide +kernel, rfl, by decide +kernel, by decide +kernel⟩
theorem sc_law : FnScope ["script", "spot"] ["script"] (defScope s_law) := ⟨rfl, rfl, rfl, by decide +kernel, rfl, by decide +kernel, by decide +kernel⟩
noncomputable def g_is_integer : SS → R Fl := gRet (gAndV (gUn (dIsi "int") (gVar 0)) (gNotV (gUn (dIsi "bool") (gVar 0))))
noncomputable def G_is_integer : List SV → RF := gDef 1 0 g_is_integer
noncomputable def g_is_in : SS → R Fl := gRet (gAndV (gOfR (gCallR 1 G_is_integer (gAgD (gVar 0) (gAg0)))) (gChain dLe dLe (gVar 1) (gVar 0) (gVar 2)))
noncomputable def G_is_in : List SV → RF := gDef 3 0 g_is_in
noncomputable def g_is_name : SS → R Fl := gSeq (gIf (gOr (gNot (gT (gUn (dIsi "str") (gVar 0)))) (gNot (gT (gChain dLe dLe (gC (.int 1)) (gUn dLen (gVar 0)) (gC (.int (8))))))) (gRet (gC (.bool false))) (gSkip)) (gRet (gUn dAll (gD (gLc [1] (gItS (gVar 0)) (fName 1) (gYes) (gOp dInS (gVar 1) (gC (.str "abcdefghijklmnopqrstuvwxyz")))))))
noncomputable def G_is_name : List SV → RF := gDef 1 1 g_is_name
noncomputable def g_is_tuple_of : SS → R Fl := gRet (gAndV (gUn (dIsi "tuple") (gVar 0)) (gOp dEq (gUn dLen (gVar 0)) (gVar 1)))
noncomputable def G_is_tuple_of : List SV → RF := gDef 2 0 g_is_tuple_of
noncomputable def g_are_at_most : SS → R Fl := gRet (gAndV (gUn (dIsi "tuple") (gVar 0)) (gOp dLe (gUn dLen (gVar 0)) (gVar 1)))
noncomputable def G_are_at_most : List SV → RF := gDef 2 0 g_are_at_most
noncomputable def g_demand : SS → R Fl := gIf (gNot (gT (gVar 0))) (gRaise "BadArgument" "name" (gVar 1)) (gSkip)
noncomputable def G_demand : List SV → RF := gDef 2 0 g_demand
noncomputable def g_sorted_dict : SS → R Fl := gRetO (gDc [1] (gItL (gD (gUnN cSortedK (gOwn 0)))) (fName 1) (gYes) (gVar 1) (gDIx 0 (gVar 1)))
noncomputable def G_sorted_dict : List SV → RF := gDef 1 1 g_sorted_dict
noncomputable def g_is_owing : SS → R Fl := gSeq (gIf (gOr (gNot (gT (gOfR (gCallR 2 G_is_tuple_of (gAgD (gVar 0) (gAgD (gC (.int 3)) (gAg0))))))) (gOr (gNot (gT (gOfR (gCallR 1 G_is_name (gAgD (gOp dIx (gVar 0) (gC (.int 0))) (gAg0)))))) (gNot (gT (gOfR (gCallR 1 G_is_name (gAgD (gOp dIx (gVar 0) (gC (.int 1))) (gAg0)))))))) (gRet (gC (.bool false))) (gSkip)) (gRet (gAndV (gOp dNe (gOp dIx (gVar 0) (gC (.int 0))) (gOp dIx (gVar 0) (gC (.int 1)))) (gOfR (gCallR 3 G_is_in (gAgD (gOp dIx (gVar 0) (gC (.int 2))) (gAgD (gC (.int 1)) (gAgD (gC (.int (100000))) (gAg0))))))))
noncomputable def G_is_owing : List SV → RF := gDef 1 0 g_is_owing
noncomputable def g_are_owings : SS → R Fl := gRet (gAndV (gOfR (gCallR 2 G_are_at_most (gAgD (gVar 0) (gAgD (gC (.int (100))) (gAg0))))) (gUn dAll (gD (gLc [1] (gItT (gVar 0)) (fName 1) (gYes) (gOfR (gCallR 1 G_is_owing (gAgD (gVar 1) (gAg0))))))))
noncomputable def G_are_owings : List SV → RF := gDef 1 1 g_are_owings
noncomputable def g_nets_of : SS → R Fl := gSeq (gAsgO 1 (gNewM)) (gSeq (gFor (gItT (gVar 0)) (fTup 3 (fCons (fName 2) (fCons (fName 3) (fCons (fName 4) (fNil))))) (gSeq (gSetK 1 (gOp dSub (gDGet 1 (gVar 2) (gC (.int 0))) (gVar 4)) (gVar 2)) (gSetK 1 (gOp dAdd (gDGet 1 (gVar 3) (gC (.int 0))) (gVar 4)) (gVar 3)))) (gRetO (gOfRO (gCallR 1 G_sorted_dict (gAgS 1 (gAg0))))))
noncomputable def G_nets_of : List SV → RF := gDef 1 4 g_nets_of
noncomputable def g_nets : SS → R Fl := gSeq (gDrop (gOfR (gCallR 2 G_demand (gAgD (gOfR (gCallR 1 G_are_owings (gAgD (gVar 0) (gAg0)))) (gAgD (gC (.str "owings")) (gAg0)))))) (gRetO (gOfRO (gCallR 1 G_nets_of (gAgD (gVar 0) (gAg0)))))
noncomputable def G_nets : List SV → RF := gDef 1 0 g_nets
noncomputable def g_netted : SS → R Fl := gSeq (gDrop (gOfR (gCallR 2 G_demand (gAgD (gOfR (gCallR 1 G_are_owings (gAgD (gVar 0) (gAg0)))) (gAgD (gC (.str "owings")) (gAg0)))))) (gSeq (gAsgO 1 (gOfRO (gCallR 1 G_nets_of (gAgD (gVar 0) (gAg0))))) (gSeq (gAsgO 2 (gLst (gNil))) (gSeq (gFor (gItL (gD (gUnN cSortedK (gOwn 1)))) (fName 3) (gFor (gItL (gD (gUnN cSortedK (gOwn 1)))) (fName 4) (gSeq (gAsg 5 (gOp dMin2 (gUn dNeg (gDIx 1 (gVar 3))) (gDIx 1 (gVar 4)))) (gIf (gT (gOp dGt (gVar 5) (gC (.int 0)))) (gSeq (gApO 2 (gTup (gCons (gVar 3) (gCons (gVar 4) (gCons (gVar 5) (gNil)))))) (gSeq (gSetK 1 (gOp dAdd (gDIx 1 (gVar 3)) (gVar 5)) (gVar 3)) (gSetK 1 (gOp dSub (gDIx 1 (gVar 4)) (gVar 5)) (gVar 4)))) (gSkip))))) (gFrz 2 (gRet (gUn dTuple (gVar 2)))))))
noncomputable def G_netted : List SV → RF := gDef 1 5 g_netted
noncomputable def g__law_dice : SS → R Fl := gSeq (gAsg 2 (gIfE (gT (gOp dLt (gVar 1) (gScrLen 0))) (gScrIx 0 (gVar 1)) (gOp dAdd (gOp dMul (gC (.int 733)) (gVar 1)) (gC (.int 29))))) (gSeq (gAsg 3 (gOp dAdd (gC (.int 910003)) (gOp dMul (gC (.int 7907)) (gVar 1)))) (gSeq (gFor (gItL (gD (gOpN cCat (gD (gScrSl 0 (gPartN) (gPart (gC (.int 6))))) (gD (gLst (gCons (gVar 2) (gNil))))))) (fName 4) (gAsg 3 (gOp dMod (gUn dInt (gOp dAdd (gOp dMul (gVar 3) (gC (.int 48271))) (gOp dMod (gUn dInt (gVar 4)) (gC (.int 2147480009))))) (gC (.int 2147480009))))) (gRetO (gLst (gCons (gIfE (gOr (gT (gOp dLt (gVar 2) (gC (.int 0)))) (gT (gOp dGe (gVar 2) (gOp dPow (gC (.int 10)) (gC (.int 16)))))) (gUn dAbs (gVar 2)) (gC (.int 0))) (gCons (gVar 3) (gCons (gC (.int 0)) (gNil))))))))
noncomputable def G__law_dice : List SV → RF := gDef 2 3 g__law_dice
noncomputable def g__law_roll : SS → R Fl := gSeq (gIf (gT (gOp dGt (gOpL dIx 0 (gC (.int 0))) (gC (.int 0)))) (gSeq (gAsg 2 (gOp dMod (gUn dInt (gOpL dIx 0 (gC (.int 0)))) (gVar 1))) (gSeq (gSetIx 0 (gOp dDiv (gOpL dIx 0 (gC (.int 0))) (gVar 1)) (gC (.int 0))) (gRet (gVar 2)))) (gSkip)) (gSeq (gSetIx 0 (gOp dAdd (gOpL dIx 0 (gC (.int 2))) (gC (.int 1))) (gC (.int 2))) (gSeq (gSetIx 0 (gOp dMod (gUn dInt (gOp dAdd (gOp dAdd (gOp dMul (gOpL dIx 0 (gC (.int 1))) (gC (.int 52501))) (gOp dMul (gOp dMul (gOpL dIx 0 (gC (.int 2))) (gOpL dIx 0 (gC (.int 2)))) (gC (.int 1009)))) (gC (.int 77)))) (gC (.int 2147480009))) (gC (.int 1))) (gRet (gOp dMod (gUn dInt (gOp dDiv (gOpL dIx 0 (gC (.int 1))) (gC (.int 211)))) (gVar 1)))))
noncomputable def G__law_roll : List SV → RF := gDef 2 1 g__law_roll
noncomputable def g__law_pick : SS → R Fl := gRet (gOp dIx (gVar 1) (gOfR (gCallR 2 G__law_roll (gAgS 0 (gAgD (gUn dLen (gVar 1)) (gAg0))))))
noncomputable def G__law_pick : List SV → RF := gDef 2 0 g__law_pick
noncomputable def g__law_own_nets : SS → R Fl := gSeq (gAsgO 1 (gNewM)) (gSeq (gFor (gItA (gVar 0)) (fTup 3 (fCons (fName 2) (fCons (fName 3) (fCons (fName 4) (fNil))))) (gSeq (gSetK 1 (gOp dSub (gDGet 1 (gVar 2) (gC (.int 0))) (gVar 4)) (gVar 2)) (gSetK 1 (gOp dAdd (gDGet 1 (gVar 3) (gC (.int 0))) (gVar 4)) (gVar 3)))) (gRetO (gLc [5] (gItL (gD (gUnN cSortedK (gOwn 1)))) (fName 5) (gYes) (gTup (gCons (gVar 5) (gCons (gDIx 1 (gVar 5)) (gNil)))))))
noncomputable def G__law_own_nets : List SV → RF := gDef 1 5 g__law_own_nets
noncomputable def g__law_by_rule : SS → R Fl := gSeq (gPar3O 1 2 3 (gD (gLc [6, 7] (gItL (gVar 0)) (fTup 2 (fCons (fName 6) (fCons (fName 7) (fNil)))) (gT (gOp dLt (gVar 7) (gC (.int 0)))) (gD (gLst (gCons (gVar 6) (gCons (gUn dNeg (gVar 7)) (gNil))))))) (gD (gLc [6, 7] (gItL (gVar 0)) (fTup 2 (fCons (fName 6) (fCons (fName 7) (fNil)))) (gT (gOp dGt (gVar 7) (gC (.int 0)))) (gD (gLst (gCons (gVar 6) (gCons (gVar 7) (gNil))))))) (gLst (gNil))) (gSeq (gFor (gRange1 (gOp dMul (gC (.int 2)) (gUn dLen (gVar 0)))) (fName 4) (gSeq (gIf (gT (gOp dEq (gVar 1) (gD (gLst (gNil))))) (gBrk) (gSkip)) (gSeq (gAsg 5 (gOp dMin2 (gOp dIx (gOp dIx (gVar 1) (gC (.int 0))) (gC (.int 1))) (gOp dIx (gOp dIx (gVar 2) (gC (.int 0))) (gC (.int 1))))) (gSeq (gApO 3 (gTup (gCons (gOp dIx (gOp dIx (gVar 1) (gC (.int 0))) (gC (.int 0))) (gCons (gOp dIx (gOp dIx (gVar 2) (gC (.int 0))) (gC (.int 0))) (gCons (gVar 5) (gNil)))))) (gSeq (gAsg 1 (gD (gOpN cCat (gD (gOpN cRep (gD (gLst (gCons (gD (gLst (gCons (gOp dIx (gOp dIx (gVar 1) (gC (.int 0))) (gC (.int 0))) (gCons (gOp dSub (gOp dIx (gOp dIx (gVar 1) (gC (.int 0))) (gC (.int 1))) (gVar 5)) (gNil))))) (gNil)))) (gUn dInt (gOp dGt (gOp dIx (gOp dIx (gVar 1) (gC (.int 0))) (gC (.int 1))) (gVar 5))))) (gD (gSl cSlL (gVar 1) (gPart (gC (.int 1))) (gPartN)))))) (gAsg 2 (gD (gOpN cCat (gD (gOpN cRep (gD (gLst (gCons (gD (gLst (gCons (gOp dIx (gOp dIx (gVar 2) (gC (.int 0))) (gC (.int 0))) (gCons (gOp dSub (gOp dIx (gOp dIx (gVar 2) (gC (.int 0))) (gC (.int 1))) (gVar 5)) (gNil))))) (gNil)))) (gUn dInt (gOp dGt (gOp dIx (gOp dIx (gVar 2) (gC (.int 0))) (gC (.int 1))) (gVar 5))))) (gD (gSl cSlL (gVar 2) (gPart (gC (.int 1))) (gPartN))))))))))) (gFrz 3 (gRet (gUn dTuple (gVar 3)))))
noncomputable def G__law_by_rule : List SV → RF := gDef 1 7 g__law_by_rule
noncomputable def g__law_right : SS → R Fl := gSeq (gParO 1 2 (gD (gSl cSlL (gD (gLst (gCons (gC (.str "a")) (gCons (gC (.str "b")) (gCons (gC (.str "c")) (gCons (gC (.str "dd")) (gCons (gC (.str "e")) (gCons (gC (.str "ff")) (gCons (gC (.str "g")) (gCons (gC (.str "h")) (gNil))))))))))) (gPartN) (gPart (gOp dAdd (gC (.int 2)) (gOfR (gCallR 2 G__law_roll (gAgS 0 (gAgD (gC (.int 7)) (gAg0))))))))) (gLst (gNil))) (gSeq (gFor (gRange1 (gOfR (gCallR 2 G__law_pick (gAgS 0 (gAgD (gD (gLst (gCons (gC (.int 0)) (gCons (gC (.int 1)) (gCons (gC (.int 3)) (gCons (gC (.int 9)) (gCons (gC (.int 100)) (gNil)))))))) (gAg0)))))) (fName 3) (gSeq (gPar 4 5 (gOfR (gCallR 2 G__law_pick (gAgS 0 (gAgD (gVar 1) (gAg0))))) (gOfR (gCallR 2 G__law_pick (gAgS 0 (gAgD (gVar 1) (gAg0)))))) (gIf (gT (gOp dNe (gVar 4) (gVar 5))) (gApO 2 (gTup (gCons (gVar 4) (gCons (gVar 5) (gCons (gOp dAdd (gC (.int 1)) (gOfR (gCallR 2 G__law_pick (gAgS 0 (gAgD (gD (gLst (gCons (gC (.int 0)) (gCons (gC (.int 4)) (gCons (gC (.int 9)) (gCons (gOfR (gCallR 2 G__law_roll (gAgS 0 (gAgD (gC (.int 1000)) (gAg0))))) (gCons (gC (.int 99999)) (gNil)))))))) (gAg0)))))) (gNil)))))) (gSkip)))) (gSeq (gFrz 2 (gPar 2 6 (gUn dTuple (gVar 2)) (gD (gOfRO (gCallR 1 G__law_own_nets (gAgD (gVar 2) (gAg0))))))) (gSeq (gParF 7 8 (gOfRO (gCallKN 1 0 1 [0] G_nets gAg0 (gAgD (gVar 2) (gAg0)))) (gOfR (gCallKN 1 0 1 [0] G_netted gAg0 (gAgD (gVar 2) (gAg0))))) (gSeq (gIf (gOr (gT (gOp dNe (gD (gLk 7 (gLc [11] (gKeysF 7) (fName 11) (gYes) (gTup (gCons (gVar 11) (gCons (gDIx 7 (gVar 11)) (gNil))))))) (gVar 6))) (gOr (gT (gOp dNe (gVar 8) (gOfR (gCallR 1 G__law_by_rule (gAgD (gVar 6) (gAg0)))))) (gOr (gT (gOp dNeM (gD (gOfRO (gCallR 1 G_nets (gAgD (gVar 2) (gAg0))))) (gOwn 7))) (gT (gOp dNe (gOfR (gCallR 1 G_netted (gAgD (gVar 2) (gAg0)))) (gVar 8)))))) (gRet (gC (.bool false))) (gSkip)) (gSeq (gIf (gT (gOp dNe (gD (gLc [12] (gItL (gVar 6)) (fName 12) (gT (gOp dNe (gOp dIx (gVar 12) (gC (.int 1))) (gC (.int 0)))) (gVar 12))) (gD (gLc [12] (gItL (gD (gOfRO (gCallR 1 G__law_own_nets (gAgD (gVar 8) (gAg0)))))) (fName 12) (gYes) (gVar 12))))) (gRet (gC (.bool false))) (gSkip)) (gSeq (gAsg 9 (gUn dSum (gD (gLc [13, 14, 15] (gItT (gVar 8)) (fTup 3 (fCons (fName 13) (fCons (fName 14) (fCons (fName 15) (fNil))))) (gYes) (gVar 15))))) (gSeq (gIf (gOr (gT (gOp dNe (gVar 9) (gUn dSum (gD (gLc [11, 16] (gItL (gVar 6)) (fTup 2 (fCons (fName 11) (fCons (fName 16) (fNil)))) (gT (gOp dGt (gVar 16) (gC (.int 0)))) (gVar 16)))))) (gAnd (gT (gOp dNe (gVar 8) (gTup (gNil)))) (gT (gOp dGe (gUn dLen (gVar 8)) (gUn dLen (gD (gLc [11, 16] (gItL (gVar 6)) (fTup 2 (fCons (fName 11) (fCons (fName 16) (fNil)))) (gT (gOp dNe (gVar 16) (gC (.int 0)))) (gC (.int 1))))))))) (gRet (gC (.bool false))) (gSkip)) (gSeq (gSetK 7 (gC (.int 1)) (gC (.str "zz"))) (gSeq (gAsg 10 (gOfR (gCallR 2 G__law_pick (gAgS 0 (gAgD (gD (gLst (gCons (gC .none) (gCons (gD (gUnN cList (gVar 2))) (gCons (gOp dAdd (gVar 2) (gTup (gCons (gTup (gCons (gC (.str "a")) (gCons (gC (.str "a")) (gCons (gC (.int 1)) (gNil))))) (gNil)))) (gCons (gOp dAdd (gVar 2) (gTup (gCons (gTup (gCons (gC (.str "a")) (gCons (gC (.str "b")) (gNil)))) (gNil)))) (gCons (gTup (gCons (gTup (gCons (gC (.str "a")) (gCons (gC (.str "b")) (gCons (gC (.int 0)) (gNil))))) (gNil))) (gCons (gTup (gCons (gTup (gCons (gC (.str "A")) (gCons (gC (.str "b")) (gCons (gC (.int 1)) (gNil))))) (gNil))) (gCons (gTup (gCons (gTup (gCons (gC (.str "a")) (gCons (gC (.str "b")) (gCons (gC (.int 100001)) (gNil))))) (gNil))) (gCons (gOp dRepT (gTup (gCons (gTup (gCons (gC (.str "a")) (gCons (gC (.str "b")) (gCons (gC (.int 1)) (gNil))))) (gNil))) (gC (.int 101))) (gNil))))))))))) (gAg0)))))) (gRet (gAndV (gOp dNeM (gD (gOfRO (gCallR 1 G_nets (gAgD (gVar 2) (gAg0))))) (gOwn 7)) (gOp dEq (gD (gLst (gCons (gRef "BadArgument" "name" (gD (gOfRO (gCallR 1 G_nets (gAgD (gVar 10) (gAg0)))))) (gCons (gRef "BadArgument" "name" (gOfR (gCallR 1 G_netted (gAgD (gVar 10) (gAg0))))) (gNil))))) (gD (gOpN cRep (gD (gLst (gCons (gC (.str "owings")) (gNil)))) (gC (.int 2))))))))))))))))
noncomputable def G__law_right : List SV → RF := gDef 1 16 g__law_right
noncomputable def g_law : SS → R Fl := gSeq (gFor (gRange1 (gOp dMax2 (gC (.int 1)) (gOp dMin2 (gC (.int 6)) (gScrLen 0)))) (fName 1) (gIf (gNot (gT (gOfR (gCallR 1 G__law_right (gAgF (gOfRO (gCallR 2 G__law_dice (gAgS 0 (gAgD (gVar 1) (gAg0)))))))))) (gRet (gC (.bool false))) (gSkip))) (gRet (gOp dEq (gOfR (gCallR 1 G_netted (gAgD (gTup (gCons (gTup (gCons (gC (.str "a")) (gCons (gC (.str "b")) (gCons (gC (.int 5)) (gNil))))) (gCons (gTup (gCons (gC (.str "b")) (gCons (gC (.str "c")) (gCons (gC (.int 5)) (gNil))))) (gNil)))) (gAg0)))) (gTup (gCons (gTup (gCons (gC (.str "a")) (gCons (gC (.str "c")) (gCons (gC (.int 5)) (gNil))))) (gNil)))))
noncomputable def G_law : List SV → RF := gDef 1 1 g_law
def TT (K : Frg) : List (Addr × Str) := [((He.cT K ("_law_right", none)).2, "_law_right.<locals>.<lambda>")]
structure Ft (P : Program) (K : Frg) (mg : Str → Option Value) (base : Heap) : Prop where
  n_abs : mg "abs" = none
  n_all : mg "all" = none
  n_bool : mg "bool" = none
  n_int : mg "int" = none
  n_isinstance : mg "isinstance" = none
  n_len : mg "len" = none
  n_list : mg "list" = none
  n_max : mg "max" = none
  n_min : mg "min" = none
  n_range : mg "range" = none
  n_sorted : mg "sorted" = none
  n_str : mg "str" = none
  n_sum : mg "sum" = none
  n_tuple : mg "tuple" = none
  c_LETTERS : ∃ t, mg "LETTERS" = some (.str "abcdefghijklmnopqrstuvwxyz" t)
  c_MOST_NAME : ∃ t, mg "MOST_NAME" = some (.int (8) t)
  c_MOST_OWED : ∃ t, mg "MOST_OWED" = some (.int (100000) t)
  c_MOST_OWINGS : ∃ t, mg "MOST_OWINGS" = some (.int (100) t)
  d_is_integer : mg "is_integer" = some (.ref (He.fAd K ("is_integer", none)))
  F_is_integer : ∃ fd, FnP K "is_integer" s_is_integer (He.fAd K ("is_integer", none)) fd
  d_is_in : mg "is_in" = some (.ref (He.fAd K ("is_in", none)))
  F_is_in : ∃ fd, FnP K "is_in" s_is_in (He.fAd K ("is_in", none)) fd
  d_is_name : mg "is_name" = some (.ref (He.fAd K ("is_name", none)))
  F_is_name : ∃ fd, FnP K "is_name" s_is_name (He.fAd K ("is_name", none)) fd
  d_is_tuple_of : mg "is_tuple_of" = some (.ref (He.fAd K ("is_tuple_of", none)))
  F_is_tuple_of : ∃ fd, FnP K "is_tuple_of" s_is_tuple_of (He.fAd K ("is_tuple_of", none)) fd
  d_are_at_most : mg "are_at_most" = some (.ref (He.fAd K ("are_at_most", none)))
  F_are_at_most : ∃ fd, FnP K "are_at_most" s_are_at_most (He.fAd K ("are_at_most", none)) fd
  d_demand : mg "demand" = some (.ref (He.fAd K ("demand", none)))
  F_demand : ∃ fd, FnP K "demand" s_demand (He.fAd K ("demand", none)) fd
  d_sorted_dict : mg "sorted_dict" = some (.ref (He.fAd K ("sorted_dict", none)))
  F_sorted_dict : ∃ fd, FnP K "sorted_dict" s_sorted_dict (He.fAd K ("sorted_dict", none)) fd
  d_is_owing : mg "is_owing" = some (.ref (He.fAd K ("is_owing", none)))
  F_is_owing : ∃ fd, FnP K "is_owing" s_is_owing (He.fAd K ("is_owing", none)) fd
  d_are_owings : mg "are_owings" = some (.ref (He.fAd K ("are_owings", none)))
  F_are_owings : ∃ fd, FnP K "are_owings" s_are_owings (He.fAd K ("are_owings", none)) fd
  d_nets_of : mg "nets_of" = some (.ref (He.fAd K ("nets_of", none)))
  F_nets_of : ∃ fd, FnP K "nets_of" s_nets_of (He.fAd K ("nets_of", none)) fd
  d_nets : mg "nets" = some (.ref (He.fAd K ("nets", none)))
  F_nets : ∃ fd, FnP K "nets" s_nets (He.fAd K ("nets", none)) fd
  d_netted : mg "netted" = some (.ref (He.fAd K ("netted", none)))
  F_netted : ∃ fd, FnP K "netted" s_netted (He.fAd K ("netted", none)) fd
  d__law_dice : mg "_law_dice" = some (.ref (He.fAd K ("_law_dice", none)))
  F__law_dice : ∃ fd, FnP K "_law_dice" s__law_dice (He.fAd K ("_law_dice", none)) fd
  d__law_roll : mg "_law_roll" = some (.ref (He.fAd K ("_law_roll", none)))
  F__law_roll : ∃ fd, FnP K "_law_roll" s__law_roll (He.fAd K ("_law_roll", none)) fd
  d__law_pick : mg "_law_pick" = some (.ref (He.fAd K ("_law_pick", none)))
  F__law_pick : ∃ fd, FnP K "_law_pick" s__law_pick (He.fAd K ("_law_pick", none)) fd
  d__law_refused : mg "_law_refused" = some (.ref (He.fAd K ("_law_refused", none)))
  F__law_refused : ∃ fd, FnP K "_law_refused" s__law_refused (He.fAd K ("_law_refused", none)) fd
  d__law_own_nets : mg "_law_own_nets" = some (.ref (He.fAd K ("_law_own_nets", none)))
  F__law_own_nets : ∃ fd, FnP K "_law_own_nets" s__law_own_nets (He.fAd K ("_law_own_nets", none)) fd
  d__law_by_rule : mg "_law_by_rule" = some (.ref (He.fAd K ("_law_by_rule", none)))
  F__law_by_rule : ∃ fd, FnP K "_law_by_rule" s__law_by_rule (He.fAd K ("_law_by_rule", none)) fd
  d__law_right : mg "_law_right" = some (.ref (He.fAd K ("_law_right", none)))
  F__law_right : ∃ fd, FnP K "_law_right" s__law_right (He.fAd K ("_law_right", none)) fd
  d_law : mg "law" = some (.ref (He.fAd K ("law", none)))
  F_law : ∃ fd, FnP K "law" s_law (He.fAd K ("law", none)) fd
  bad : ∃ C fI fd, ErrC P K mg "BadArgument" C fI "name" "self" "name" fd
  t__law_right : LamX.TabB base mg (He.codeOf K ("_law_right", none)) (He.cT K ("_law_right", none)).2
section
variable {P : Program} {w : World} {K : Frg} {mg : Str → Option Value} {base : Heap}
theorem mem__law_right : ((He.cT K ("_law_right", none)).2, ("_law_right.<locals>.<lambda>" : Str)) ∈ TT K := by simp [TT]
theorem uniq__law_right (Z : Ft P K mg base) : ∀ p ∈ TT K, p.1 = (He.cT K ("_law_right", none)).2 → p.2 = ("_law_right.<locals>.<lambda>" : Str) := fun p hp _ => by
  rcases List.mem_singleton.mp hp with rfl
  rfl
theorem d_is_integer (Z : Ft P K mg base) : DOk P w K mg base (TT K) 1 "is_integer" ["value"] s_is_integer G_is_integer := by
  obtain ⟨fd, F⟩ := Z.F_is_integer
  exact mk_D (gb := g_is_integer) Z.d_is_integer F sc_is_integer rfl (fun _ _ _ _ _ _ us hl => match us, hl with | [_], _ => rfl) (fun cdv hcdv A outer s H E hr => sts_one (st_ret (ev_and (ev_isi (ep_of (ev_var 0)) Z.n_isinstance Z.n_int (by decide +kernel)) (ev_one (ev_not (ev_isi (ep_of (ev_var 0)) Z.n_isinstance Z.n_bool (by decide +kernel)))))))
theorem d_is_in (Z : Ft P K mg base) : DOk P w K mg base (TT K) 2 "is_in" ["value", "low", "high"] s_is_in G_is_in := by
  obtain ⟨fd, F⟩ := Z.F_is_in
  exact mk_D (gb := g_is_in) Z.d_is_in F sc_is_in rfl (fun _ _ _ _ _ _ us hl => match us, hl with | [_, _, _], _ => rfl) (fun cdv hcdv A outer s H E hr => sts_one (st_ret (ev_and (ev_rvj (rv_callD (d_is_integer Z) (hr.mono (by decide)) (takes_of rfl rfl rfl rfl) (ag_d (ev_var 0) (ag_nil)))) (ev_one (ev_chain (op_leD hr.units) (op_leD hr.units) rd_ord.ok rd_ord.ok (ev_var 1) (ev_var 0) (ev_var 2))))))
theorem d_is_name (Z : Ft P K mg base) : DOk P w K mg base (TT K) 1 "is_name" ["value"] s_is_name G_is_name := by
  obtain ⟨fd, F⟩ := Z.F_is_name
  exact mk_D (gb := g_is_name) Z.d_is_name F sc_is_name rfl (fun _ _ _ _ _ _ us hl => match us, hl with | [_], _ => rfl) (fun cdv hcdv A outer s H E hr => sts_cons (st_if (tv_w (tw_or (tv_not (tv_of (ev_isi (ep_of (ev_var 0)) Z.n_isinstance Z.n_str (by decide +kernel)))) (tw_or1 (tv_not (tv_chain (op_leD hr.units) (op_leD hr.units) rd_ord.ok rd_ord.ok (ev_int) (ev_b1 call_len ok_len Z.n_len (by decide +kernel) (ep_of (ev_var 0))) (ev_globI' Z.c_MOST_NAME)))))) (sts_one (st_ret (ev_bl))) (sts_nil)) (sts_one (st_ret (ev_b1 (cr_all rfl) ok_all Z.n_all (by decide +kernel) (ep_new (eo_lc (own := [("sign", 1)]) rfl sc_is_name.nd rfl (iv_str (ev_var 0)) (blk_by (by kernel_rfl)) (fun _ _ _ _ _ => gv_name 1 sc_is_name.nd) (fun _ _ _ _ _ => ptv_nil) (fun _ _ _ _ _ => ev_cmpR (op_in_sign) rd_inS (ev_var 1) (ep_of (ev_globS' Z.c_LETTERS)))))))))
theorem d_is_tuple_of (Z : Ft P K mg base) : DOk P w K mg base (TT K) 1 "is_tuple_of" ["value", "many"] s_is_tuple_of G_is_tuple_of := by
  obtain ⟨fd, F⟩ := Z.F_is_tuple_of
  exact mk_D (gb := g_is_tuple_of) Z.d_is_tuple_of F sc_is_tuple_of rfl (fun _ _ _ _ _ _ us hl => match us, hl with | [_, _], _ => rfl) (fun cdv hcdv A outer s H E hr => sts_one (st_ret (ev_and (ev_isi (ep_of (ev_var 0)) Z.n_isinstance Z.n_tuple (by decide +kernel)) (ev_one (ev_cmpR (op_eqP hr.units) rd_eq (ev_b1 call_len ok_len Z.n_len (by decide +kernel) (ep_of (ev_var 0))) (ep_of (ev_var 1)))))))
theorem d_are_at_most (Z : Ft P K mg base) : DOk P w K mg base (TT K) 1 "are_at_most" ["value", "many"] s_are_at_most G_are_at_most := by
  obtain ⟨fd, F⟩ := Z.F_are_at_most
  exact mk_D (gb := g_are_at_most) Z.d_are_at_most F sc_are_at_most rfl (fun _ _ _ _ _ _ us hl => match us, hl with | [_, _], _ => rfl) (fun cdv hcdv A outer s H E hr => sts_one (st_ret (ev_and (ev_isi (ep_of (ev_var 0)) Z.n_isinstance Z.n_tuple (by decide +kernel)) (ev_one (ev_cmpR (op_leD hr.units) rd_ord (ev_b1 call_len ok_len Z.n_len (by decide +kernel) (ep_of (ev_var 0))) (ep_of (ev_var 1)))))))
theorem d_demand (Z : Ft P K mg base) : DOk P w K mg base (TT K) 3 "demand" ["is_good", "name"] s_demand G_demand := by
  obtain ⟨fd, F⟩ := Z.F_demand
  exact mk_D (gb := g_demand) Z.d_demand F sc_demand rfl (fun _ _ _ _ _ _ us hl => match us, hl with | [_, _], _ => rfl) (fun cdv hcdv A outer s H E hr => sts_one (st_if (tv_not (tv_of (ev_var 0))) (sts_one (st_raiseD Z.bad (hr.mono (by decide)) (takes_of rfl rfl rfl rfl) (ev_var 1))) (sts_nil)))
theorem d_sorted_dict (Z : Ft P K mg base) : DOk P w K mg base (TT K) 1 "sorted_dict" ["found"] s_sorted_dict G_sorted_dict := by
  obtain ⟨fd, F⟩ := Z.F_sorted_dict
  exact mk_D (gb := g_sorted_dict) Z.d_sorted_dict F sc_sorted_dict rfl (fun _ _ _ _ _ _ us hl => match us, hl with | [_], _ => rfl) (fun cdv hcdv A outer s H E hr => sts_one (st_retO (eo_dc (own := [("key", 1)]) rfl sc_sorted_dict.nd rfl (IV.toP (iv_list (ev_of (eo_b1 (call_sortedD rfl) new_sortedK Z.n_sorted (by decide +kernel) (ep_own 0))))) (blk_by (by kernel_rfl)) (fun _ _ _ _ _ => gv_name 1 sc_sorted_dict.nd) (fun _ _ _ _ _ => ptv_nil) (fun _ _ _ _ _ => ev_var 1) (fun _ _ _ _ _ => ev_dixO 0 hr.units (ev_var 1)))))
theorem d_is_owing (Z : Ft P K mg base) : DOk P w K mg base (TT K) 3 "is_owing" ["value"] s_is_owing G_is_owing := by
  obtain ⟨fd, F⟩ := Z.F_is_owing
  exact mk_D (gb := g_is_owing) Z.d_is_owing F sc_is_owing rfl (fun _ _ _ _ _ _ us hl => match us, hl with | [_], _ => rfl) (fun cdv hcdv A outer s H E hr => sts_cons (st_if (tv_w (tw_or (tv_not (tv_of (ev_rvj (rv_callD (d_is_tuple_of Z) (hr.mono (by decide)) (takes_of rfl rfl rfl rfl) (ag_d (ev_var 0) (ag_d (ev_int) (ag_nil))))))) (tw_or (tv_not (tv_of (ev_rvj (rv_callD (d_is_name Z) (hr.mono (by decide)) (takes_of rfl rfl rfl rfl) (ag_d (ev_ix (ev_var 0) (ep_of (ev_int))) (ag_nil)))))) (tw_or1 (tv_not (tv_of (ev_rvj (rv_callD (d_is_name Z) (hr.mono (by decide)) (takes_of rfl rfl rfl rfl) (ag_d (ev_ix (ev_var 0) (ep_of (ev_int))) (ag_nil)))))))))) (sts_one (st_ret (ev_bl))) (sts_nil)) (sts_one (st_ret (ev_and (ev_cmpR (op_neP hr.units) rd_eq (ev_ix (ev_var 0) (ep_of (ev_int))) (ep_of (ev_ix (ev_var 0) (ep_of (ev_int))))) (ev_one (ev_rvj (rv_callD (d_is_in Z) (hr.mono (by decide)) (takes_of rfl rfl rfl rfl) (ag_d (ev_ix (ev_var 0) (ep_of (ev_int))) (ag_d (ev_int) (ag_d (ev_globI' Z.c_MOST_OWED) (ag_nil)))))))))))
theorem d_are_owings (Z : Ft P K mg base) : DOk P w K mg base (TT K) 4 "are_owings" ["value"] s_are_owings G_are_owings := by
  obtain ⟨fd, F⟩ := Z.F_are_owings
  exact mk_D (gb := g_are_owings) Z.d_are_owings F sc_are_owings rfl (fun _ _ _ _ _ _ us hl => match us, hl with | [_], _ => rfl) (fun cdv hcdv A outer s H E hr => sts_one (st_ret (ev_and (ev_rvj (rv_callD (d_are_at_most Z) (hr.mono (by decide)) (takes_of rfl rfl rfl rfl) (ag_d (ev_var 0) (ag_d (ev_globI' Z.c_MOST_OWINGS) (ag_nil))))) (ev_one (ev_b1 (cr_all rfl) ok_all Z.n_all (by decide +kernel) (ep_new (eo_lc (own := [("owing", 1)]) rfl sc_are_owings.nd rfl (iv_tup (ev_var 0)) (blk_by (by kernel_rfl)) (fun _ _ _ _ _ => gv_name 1 sc_are_owings.nd) (fun _ _ _ _ _ => ptv_nil) (fun _ _ _ _ _ => ev_rvj (rv_callD (d_is_owing Z) (hr.mono (by decide)) LamX.takes0 (ag_d (ev_var 1) (ag_nil)))))))))))
theorem d_nets_of (Z : Ft P K mg base) : DOk P w K mg base (TT K) 2 "nets_of" ["owings"] s_nets_of G_nets_of := by
  obtain ⟨fd, F⟩ := Z.F_nets_of
  exact mk_D (gb := g_nets_of) Z.d_nets_of F sc_nets_of rfl (fun _ _ _ _ _ _ us hl => match us, hl with | [_], _ => rfl) (fun cdv hcdv A outer s H E hr => sts_cons (st_setO 1 sc_nets_of.nd (eo_dnew) (Nat.le_of_ble_eq_true rfl)) (sts_cons (st_for (vs := [2, 3, 4]) (passes_of rfl) rfl (iv_tup (ev_var 0)) (gv_tup rfl (gvs_cons (gv_name 2 sc_nets_of.nd) (gvs_cons (gv_name 3 sc_nets_of.nd) (gvs_cons (gv_name 4 sc_nets_of.nd) (gvs_nil))))) (sts_cons (st_setK 1 hr.units (ev_op op_sub rd_sub.ok (ev_dget2 1 hr.units (ev_var 2) (ev_int)) (ev_var 4)) (ev_var 2)) (sts_one (st_setK 1 hr.units (ev_op op_addD ok_add (ev_dget2 1 hr.units (ev_var 3) (ev_int)) (ev_var 4)) (ev_var 3))))) (sts_one (st_retO (eo_rvj (rv_callD (d_sorted_dict Z) (hr.mono (by decide)) (takes_of rfl rfl rfl rfl) (ag_s 1 (ag_nil))))))))
theorem d_nets (Z : Ft P K mg base) : DOk P w K mg base (TT K) 5 "nets" ["owings"] s_nets G_nets := by
  obtain ⟨fd, F⟩ := Z.F_nets
  exact mk_D (gb := g_nets) Z.d_nets F sc_nets rfl (fun _ _ _ _ _ _ us hl => match us, hl with | [_], _ => rfl) (fun cdv hcdv A outer s H E hr => sts_cons (st_expr (ev_rvj (rv_callD (d_demand Z) (hr.mono (by decide)) (takes_of rfl rfl rfl rfl) (ag_d (ev_rvj (rv_callD (d_are_owings Z) (hr.mono (by decide)) (takes_of rfl rfl rfl rfl) (ag_d (ev_var 0) (ag_nil)))) (ag_d (ev_str) (ag_nil)))))) (sts_one (st_retO (eo_rvj (rv_callD (d_nets_of Z) (hr.mono (by decide)) (takes_of rfl rfl rfl rfl) (ag_d (ev_var 0) (ag_nil)))))))
theorem d_netted (Z : Ft P K mg base) : DOk P w K mg base (TT K) 5 "netted" ["owings"] s_netted G_netted := by
  obtain ⟨fd, F⟩ := Z.F_netted
  exact mk_D (gb := g_netted) Z.d_netted F sc_netted rfl (fun _ _ _ _ _ _ us hl => match us, hl with | [_], _ => rfl) (fun cdv hcdv A outer s H E hr => sts_cons (st_expr (ev_rvj (rv_callD (d_demand Z) (hr.mono (by decide)) (takes_of rfl rfl rfl rfl) (ag_d (ev_rvj (rv_callD (d_are_owings Z) (hr.mono (by decide)) (takes_of rfl rfl rfl rfl) (ag_d (ev_var 0) (ag_nil)))) (ag_d (ev_str) (ag_nil)))))) (sts_cons (st_setO 1 sc_netted.nd (eo_rvj (rv_callD (d_nets_of Z) (hr.mono (by decide)) (takes_of rfl rfl rfl rfl) (ag_d (ev_var 0) (ag_nil)))) (Nat.le_of_ble_eq_true rfl)) (sts_cons (st_setO 2 sc_netted.nd (eo_lst (av_nil)) (Nat.le_of_ble_eq_true rfl)) (sts_cons (st_for (vs := [3]) (passes_of rfl) rfl (iv_list (ev_of (eo_b1 (call_sortedD rfl) new_sortedK Z.n_sorted (by decide +kernel) (ep_own 1)))) (gv_name 3 sc_netted.nd) (sts_one (st_for (vs := [4]) (passes_of rfl) rfl (iv_list (ev_of (eo_b1 (call_sortedD rfl) new_sortedK Z.n_sorted (by decide +kernel) (ep_own 1)))) (gv_name 4 sc_netted.nd) (sts_cons (st_set 5 sc_netted.nd (ev_b2 (call_min2 rfl) ok_min2 Z.n_min (by decide +kernel) (ev_neg (ev_dixO 1 hr.units (ev_var 3))) (ep_of (ev_dixO 1 hr.units (ev_var 4))))) (sts_one (st_if (tv_cmpR (op_gtD hr.units) rd_ord (ev_var 5) (ep_of (ev_int))) (sts_cons (st_app 2 (ev_tup (av_cons (ev_var 3) (av_cons (ev_var 4) (av_cons (ev_var 5) (av_nil)))))) (sts_cons (st_setK 1 hr.units (ev_op op_addD ok_add (ev_dixO 1 hr.units (ev_var 3)) (ev_var 5)) (ev_var 3)) (sts_one (st_setK 1 hr.units (ev_op op_sub rd_sub.ok (ev_dixO 1 hr.units (ev_var 4)) (ev_var 5)) (ev_var 4))))) (sts_nil))))))) (sts_one (st_frz 2 (st_ret (ev_t1 call_tuple_of ok_tuple Z.n_tuple (by decide +kernel) (ep_of (ev_var 2))))))))))
theorem d__law_dice (Z : Ft P K mg base) : DOk P w K mg base (TT K) 1 "_law_dice" ["script", "spot"] s__law_dice G__law_dice := by
  obtain ⟨fd, F⟩ := Z.F__law_dice
  exact mk_D (gb := g__law_dice) Z.d__law_dice F sc__law_dice rfl (fun _ _ _ _ _ _ us hl => match us, hl with | [_, _], _ => rfl) (fun cdv hcdv A outer s H E hr => sts_cons (st_set 2 sc__law_dice.nd (ev_if (tv_cmpR (op_ltD hr.units) rd_ord (ev_var 1) (ep_of (ev_scrLen 0 Z.n_len))) (ev_scrIx 0 (ev_var 1)) (ev_op op_addD ok_add (ev_op op_mul rd_mul.ok (ev_int) (ev_var 1)) (ev_int)))) (sts_cons (st_set 3 sc__law_dice.nd (ev_op op_addD ok_add (ev_int) (ev_op op_mul rd_mul.ok (ev_int) (ev_var 1)))) (sts_cons (st_for (vs := [4]) (passes_of rfl) rfl (iv_list (ev_of (eo_op op_cat new_cat (ev_of (eo_scrSl 0 (ov_none) (ov_some (ev_int)))) (ep_new (eo_lst (av_cons (ev_var 2) (av_nil))))))) (gv_name 4 sc__law_dice.nd) (sts_one (st_set 3 sc__law_dice.nd (ev_op op_mod rd_mod.ok (ev_t1 call_int1 ok_int Z.n_int (by decide +kernel) (ep_of (ev_op op_addD ok_add (ev_op op_mul rd_mul.ok (ev_var 3) (ev_int)) (ev_op op_mod rd_mod.ok (ev_t1 call_int1 ok_int Z.n_int (by decide +kernel) (ep_of (ev_var 4))) (ev_int))))) (ev_int))))) (sts_one (st_retO (eo_lst (av_cons (ev_if (tv_w (tw_or (tv_cmpR (op_ltD hr.units) rd_ord (ev_var 2) (ep_of (ev_int))) (tw_or1 (tv_cmpR (op_geD hr.units) rd_ord (ev_var 2) (ep_of (ev_op op_pow rd_pow.ok (ev_int) (ev_int))))))) (ev_b1 call_abs ok_abs Z.n_abs (by decide +kernel) (ep_of (ev_var 2))) (ev_int)) (av_cons (ev_var 3) (av_cons (ev_int) (av_nil))))))))))
theorem d__law_roll (Z : Ft P K mg base) : DOk P w K mg base (TT K) 1 "_law_roll" ["dice", "total"] s__law_roll G__law_roll := by
  obtain ⟨fd, F⟩ := Z.F__law_roll
  exact mk_D (gb := g__law_roll) Z.d__law_roll F sc__law_roll rfl (fun _ _ _ _ _ _ us hl => match us, hl with | [_, _], _ => rfl) (fun cdv hcdv A outer s H E hr => sts_cons (st_if (tv_cmpR (op_gtD hr.units) rd_ord (ev_ixO 0 (ev_int)) (ep_of (ev_int))) (sts_cons (st_set 2 sc__law_roll.nd (ev_op op_mod rd_mod.ok (ev_t1 call_int1 ok_int Z.n_int (by decide +kernel) (ep_of (ev_ixO 0 (ev_int)))) (ev_var 1))) (sts_cons (st_setIx 0 (ev_op op_fdiv rd_div.ok (ev_ixO 0 (ev_int)) (ev_var 1)) (ev_int)) (sts_one (st_ret (ev_var 2))))) (sts_nil)) (sts_cons (st_setIx 0 (ev_op op_addD ok_add (ev_ixO 0 (ev_int)) (ev_int)) (ev_int)) (sts_cons (st_setIx 0 (ev_op op_mod rd_mod.ok (ev_t1 call_int1 ok_int Z.n_int (by decide +kernel) (ep_of (ev_op op_addD ok_add (ev_op op_addD ok_add (ev_op op_mul rd_mul.ok (ev_ixO 0 (ev_int)) (ev_int)) (ev_op op_mul rd_mul.ok (ev_op op_mul rd_mul.ok (ev_ixO 0 (ev_int)) (ev_ixO 0 (ev_int))) (ev_int))) (ev_int)))) (ev_int)) (ev_int)) (sts_one (st_ret (ev_op op_mod rd_mod.ok (ev_t1 call_int1 ok_int Z.n_int (by decide +kernel) (ep_of (ev_op op_fdiv rd_div.ok (ev_ixO 0 (ev_int)) (ev_int)))) (ev_var 1)))))))
theorem d__law_pick (Z : Ft P K mg base) : DOk P w K mg base (TT K) 2 "_law_pick" ["dice", "things"] s__law_pick G__law_pick := by
  obtain ⟨fd, F⟩ := Z.F__law_pick
  exact mk_D (gb := g__law_pick) Z.d__law_pick F sc__law_pick rfl (fun _ _ _ _ _ _ us hl => match us, hl with | [_, _], _ => rfl) (fun cdv hcdv A outer s H E hr => sts_one (st_ret (ev_ix (ev_var 1) (ep_of (ev_rvj (rv_callD (d__law_roll Z) (hr.mono (by decide)) (takes_of rfl rfl rfl rfl) (ag_s 0 (ag_d (ev_b1 call_len ok_len Z.n_len (by decide +kernel) (ep_of (ev_var 1))) (ag_nil)))))))))
theorem d__law_own_nets (Z : Ft P K mg base) : DOk P w K mg base (TT K) 1 "_law_own_nets" ["owings"] s__law_own_nets G__law_own_nets := by
  obtain ⟨fd, F⟩ := Z.F__law_own_nets
  exact mk_D (gb := g__law_own_nets) Z.d__law_own_nets F sc__law_own_nets rfl (fun _ _ _ _ _ _ us hl => match us, hl with | [_], _ => rfl) (fun cdv hcdv A outer s H E hr => sts_cons (st_setO 1 sc__law_own_nets.nd (eo_dnew) (Nat.le_of_ble_eq_true rfl)) (sts_cons (st_for (vs := [2, 3, 4]) (passes_of rfl) rfl (iv_any (ev_var 0)) (gv_tup rfl (gvs_cons (gv_name 2 sc__law_own_nets.nd) (gvs_cons (gv_name 3 sc__law_own_nets.nd) (gvs_cons (gv_name 4 sc__law_own_nets.nd) (gvs_nil))))) (sts_cons (st_setK 1 hr.units (ev_op op_sub rd_sub.ok (ev_dget2 1 hr.units (ev_var 2) (ev_int)) (ev_var 4)) (ev_var 2)) (sts_one (st_setK 1 hr.units (ev_op op_addD ok_add (ev_dget2 1 hr.units (ev_var 3) (ev_int)) (ev_var 4)) (ev_var 3))))) (sts_one (st_retO (eo_lc (own := [("name", 5)]) rfl sc__law_own_nets.nd rfl (iv_list (ev_of (eo_b1 (call_sortedD rfl) new_sortedK Z.n_sorted (by decide +kernel) (ep_own 1)))) (blk_by (by kernel_rfl)) (fun _ _ _ _ _ => gv_name 5 sc__law_own_nets.nd) (fun _ _ _ _ _ => ptv_nil) (fun _ _ _ _ _ => ev_tup (av_cons (ev_var 5) (av_cons (ev_dixO 1 hr.units (ev_var 5)) (av_nil)))))))))
theorem d__law_by_rule (Z : Ft P K mg base) : DOk P w K mg base (TT K) 1 "_law_by_rule" ["rows"] s__law_by_rule G__law_by_rule := by
  obtain ⟨fd, F⟩ := Z.F__law_by_rule
  exact mk_D (gb := g__law_by_rule) Z.d__law_by_rule F sc__law_by_rule rfl (fun _ _ _ _ _ _ us hl => match us, hl with | [_], _ => rfl) (fun cdv hcdv A outer s H E hr => sts_cons (st_par3O 1 2 3 rfl sc__law_by_rule.nd (ev_of (eo_lc (own := [("name", 6), ("net", 7)]) rfl sc__law_by_rule.nd rfl (iv_list (ev_var 0)) (blk_by (by kernel_rfl)) (fun _ _ _ _ _ => gv_tup rfl (gvs_cons (gv_name 6 sc__law_by_rule.nd) (gvs_cons (gv_name 7 sc__law_by_rule.nd) (gvs_nil)))) (fun _ _ _ _ _ => ptv_one (tv_cmpR (op_ltD hr.units) rd_ord (ev_var 7) (ep_of (ev_int)))) (fun _ _ _ _ _ => ev_of (eo_lst (av_cons (ev_var 6) (av_cons (ev_neg (ev_var 7)) (av_nil))))))) (ev_of (eo_lc (own := [("name", 6), ("net", 7)]) rfl sc__law_by_rule.nd rfl (iv_list (ev_var 0)) (blk_by (by kernel_rfl)) (fun _ _ _ _ _ => gv_tup rfl (gvs_cons (gv_name 6 sc__law_by_rule.nd) (gvs_cons (gv_name 7 sc__law_by_rule.nd) (gvs_nil)))) (fun _ _ _ _ _ => ptv_one (tv_cmpR (op_gtD hr.units) rd_ord (ev_var 7) (ep_of (ev_int)))) (fun _ _ _ _ _ => ev_of (eo_lst (av_cons (ev_var 6) (av_cons (ev_var 7) (av_nil))))))) (eo_lst (av_nil)) (Nat.le_of_ble_eq_true rfl)) (sts_cons (st_for (vs := [4]) (passes_of rfl) rfl (iv_range1 (ev_op op_mul rd_mul.ok (ev_int) (ev_b1 call_len ok_len Z.n_len (by decide +kernel) (ep_of (ev_var 0)))) Z.n_range) (gv_name 4 sc__law_by_rule.nd) (sts_cons (st_if (tv_cmpR (op_eqP hr.units) rd_eq (ev_var 1) (ep_new (eo_lst (av_nil)))) (sts_one (st_break)) (sts_nil)) (sts_cons (st_set 5 sc__law_by_rule.nd (ev_b2 (call_min2 rfl) ok_min2 Z.n_min (by decide +kernel) (ev_ix (ev_ix (ev_var 1) (ep_of (ev_int))) (ep_of (ev_int))) (ep_of (ev_ix (ev_ix (ev_var 2) (ep_of (ev_int))) (ep_of (ev_int)))))) (sts_cons (st_app 3 (ev_tup (av_cons (ev_ix (ev_ix (ev_var 1) (ep_of (ev_int))) (ep_of (ev_int))) (av_cons (ev_ix (ev_ix (ev_var 2) (ep_of (ev_int))) (ep_of (ev_int))) (av_cons (ev_var 5) (av_nil)))))) (sts_cons (st_set 1 sc__law_by_rule.nd (ev_of (eo_op op_cat new_cat (ev_of (eo_op op_rep new_rep (ev_of (eo_lst (av_cons (ev_of (eo_lst (av_cons (ev_ix (ev_ix (ev_var 1) (ep_of (ev_int))) (ep_of (ev_int))) (av_cons (ev_op op_sub rd_sub.ok (ev_ix (ev_ix (ev_var 1) (ep_of (ev_int))) (ep_of (ev_int))) (ev_var 5)) (av_nil))))) (av_nil)))) (ep_of (ev_t1 call_int1 ok_int Z.n_int (by decide +kernel) (ep_of (ev_cmpR (op_gtD hr.units) rd_ord (ev_ix (ev_ix (ev_var 1) (ep_of (ev_int))) (ep_of (ev_int))) (ep_of (ev_var 5)))))))) (ep_new (eo_slL (ev_var 1) (ov_some (ev_int)) (ov_none)))))) (sts_one (st_set 2 sc__law_by_rule.nd (ev_of (eo_op op_cat new_cat (ev_of (eo_op op_rep new_rep (ev_of (eo_lst (av_cons (ev_of (eo_lst (av_cons (ev_ix (ev_ix (ev_var 2) (ep_of (ev_int))) (ep_of (ev_int))) (av_cons (ev_op op_sub rd_sub.ok (ev_ix (ev_ix (ev_var 2) (ep_of (ev_int))) (ep_of (ev_int))) (ev_var 5)) (av_nil))))) (av_nil)))) (ep_of (ev_t1 call_int1 ok_int Z.n_int (by decide +kernel) (ep_of (ev_cmpR (op_gtD hr.units) rd_ord (ev_ix (ev_ix (ev_var 2) (ep_of (ev_int))) (ep_of (ev_int))) (ep_of (ev_var 5)))))))) (ep_new (eo_slL (ev_var 2) (ov_some (ev_int)) (ov_none)))))))))))) (sts_one (st_frz 3 (st_ret (ev_t1 call_tuple_of ok_tuple Z.n_tuple (by decide +kernel) (ep_of (ev_var 3))))))))
theorem d__law_right (Z : Ft P K mg base) : DOk P w K mg base (TT K) 8 "_law_right" ["dice"] s__law_right G__law_right := by
  obtain ⟨fd, F⟩ := Z.F__law_right
  obtain ⟨CE, fIE, fdE, Er⟩ := Z.bad
  exact mk_D (gb := g__law_right) Z.d__law_right F sc__law_right rfl (fun _ _ _ _ _ _ us hl => match us, hl with | [_], _ => rfl) (fun cdv hcdv A outer s H E hr => sts_cons (st_parO 1 2 rfl sc__law_right.nd (ev_of (eo_slL (ev_of (eo_lst (av_cons (ev_str) (av_cons (ev_str) (av_cons (ev_str) (av_cons (ev_str) (av_cons (ev_str) (av_cons (ev_str) (av_cons (ev_str) (av_cons (ev_str) (av_nil))))))))))) (ov_none) (ov_some (ev_op op_addD ok_add (ev_int) (ev_rvj (rv_callD (d__law_roll Z) (hr.mono (by decide)) (takes_of rfl rfl rfl rfl) (ag_s 0 (ag_d (ev_int) (ag_nil))))))))) (eo_lst (av_nil)) (Nat.le_of_ble_eq_true rfl)) (sts_cons (st_for (vs := [3]) (passes_of rfl) rfl (iv_range1 (ev_rvj (rv_callD (d__law_pick Z) (hr.mono (by decide)) (takes_of rfl rfl rfl rfl) (ag_s 0 (ag_d (ev_of (eo_lst (av_cons (ev_int) (av_cons (ev_int) (av_cons (ev_int) (av_cons (ev_int) (av_cons (ev_int) (av_nil)))))))) (ag_nil))))) Z.n_range) (gv_name 3 sc__law_right.nd) (sts_cons (st_par 4 5 rfl sc__law_right.nd (ev_rvj (rv_callD (d__law_pick Z) (hr.mono (by decide)) (takes_of rfl rfl rfl rfl) (ag_s 0 (ag_d (ev_var 1) (ag_nil))))) (ev_rvj (rv_callD (d__law_pick Z) (hr.mono (by decide)) (takes_of rfl rfl rfl rfl) (ag_s 0 (ag_d (ev_var 1) (ag_nil)))))) (sts_one (st_if (tv_cmpR (op_neP hr.units) rd_eq (ev_var 4) (ep_of (ev_var 5))) (sts_one (st_app 2 (ev_tup (av_cons (ev_var 4) (av_cons (ev_var 5) (av_cons (ev_op op_addD ok_add (ev_int) (ev_rvj (rv_callD (d__law_pick Z) (hr.mono (by decide)) (takes_of rfl rfl rfl rfl) (ag_s 0 (ag_d (ev_of (eo_lst (av_cons (ev_int) (av_cons (ev_int) (av_cons (ev_int) (av_cons (ev_rvj (rv_callD (d__law_roll Z) (hr.mono (by decide)) (takes_of rfl rfl rfl rfl) (ag_s 0 (ag_d (ev_int) (ag_nil))))) (av_cons (ev_int) (av_nil)))))))) (ag_nil)))))) (av_nil))))))) (sts_nil))))) (sts_cons (st_frz 2 (st_par 2 6 rfl sc__law_right.nd (ev_t1 call_tuple_of ok_tuple Z.n_tuple (by decide +kernel) (ep_of (ev_var 2))) (ev_of (eo_rvj (rv_callD (d__law_own_nets Z) (hr.mono (by decide)) (takes_of rfl rfl rfl rfl) (ag_d (ev_var 2) (ag_nil))))))) (sts_cons (st_parFc 7 8 rfl rfl sc__law_right.nd (eo_rvj (rv_callKD0 ["owings"] [0] (d_nets Z) (hr.mono (by decide)) (takes_of rfl rfl rfl rfl) (fun _ _ _ _ _ _ us ws h1 h2 => match us, ws, h1, h2 with | [], [_], _, _ => rfl) (agk_d (ev_var 2) (agk_nil)))) (ev_rvj (rv_callKD0 ["owings"] [0] (d_netted Z) (hr.mono (by decide)) (takes_of rfl rfl rfl rfl) (fun _ _ _ _ _ _ us ws h1 h2 => match us, ws, h1, h2 with | [], [_], _, _ => rfl) (agk_d (ev_var 2) (agk_nil)))) (Nat.le_of_ble_eq_true rfl)) (sts_cons (st_if (tv_w (tw_or (tv_cmpR (op_neP hr.units) rd_eq (ev_of (eo_lock 7 rfl (eo_lcP (own := [("name", 11)]) rfl sc__law_right.nd rfl (ivp_keys 7) (blk_by (by kernel_rfl)) (fun _ _ _ _ _ => gv_name 11 sc__law_right.nd) (fun _ _ _ _ _ => ptv_nil) (fun _ _ _ _ _ => ev_tup (av_cons (ev_var 11) (av_cons (ev_dixO 7 hr.units (ev_var 11)) (av_nil))))))) (ep_of (ev_var 6))) (tw_or (tv_cmpR (op_neP hr.units) rd_eq (ev_var 8) (ep_of (ev_rvj (rv_callD (d__law_by_rule Z) (hr.mono (by decide)) (takes_of rfl rfl rfl rfl) (ag_d (ev_var 6) (ag_nil)))))) (tw_or (tv_cmpR (op_neM hr.units) rd_neM (ev_of (eo_rvj (rv_callD (d_nets Z) (hr.mono (by decide)) (takes_of rfl rfl rfl rfl) (ag_d (ev_var 2) (ag_nil))))) (ep_own 7)) (tw_or1 (tv_cmpR (op_neP hr.units) rd_eq (ev_rvj (rv_callD (d_netted Z) (hr.mono (by decide)) (takes_of rfl rfl rfl rfl) (ag_d (ev_var 2) (ag_nil)))) (ep_of (ev_var 8)))))))) (sts_one (st_ret (ev_bl))) (sts_nil)) (sts_cons (st_if (tv_cmpR (op_neP hr.units) rd_eq (ev_of (eo_lc (own := [("pair", 12)]) rfl sc__law_right.nd rfl (iv_list (ev_var 6)) (blk_by (by kernel_rfl)) (fun _ _ _ _ _ => gv_name 12 sc__law_right.nd) (fun _ _ _ _ _ => ptv_one (tv_cmpR (op_neP hr.units) rd_eq (ev_ix (ev_var 12) (ep_of (ev_int))) (ep_of (ev_int)))) (fun _ _ _ _ _ => ev_var 12))) (ep_new (eo_lc (own := [("pair", 12)]) rfl sc__law_right.nd rfl (iv_list (ev_of (eo_rvj (rv_callD (d__law_own_nets Z) (hr.mono (by decide)) (takes_of rfl rfl rfl rfl) (ag_d (ev_var 8) (ag_nil)))))) (blk_by (by kernel_rfl)) (fun _ _ _ _ _ => gv_name 12 sc__law_right.nd) (fun _ _ _ _ _ => ptv_nil) (fun _ _ _ _ _ => ev_var 12)))) (sts_one (st_ret (ev_bl))) (sts_nil)) (sts_cons (st_set 9 sc__law_right.nd (ev_b1 (cr_sum rfl) ok_sum Z.n_sum (by decide +kernel) (ep_new (eo_lc (own := [("giver", 13), ("getter", 14), ("many", 15)]) rfl sc__law_right.nd rfl (iv_tup (ev_var 8)) (blk_by (by kernel_rfl)) (fun _ _ _ _ _ => gv_tup rfl (gvs_cons (gv_name 13 sc__law_right.nd) (gvs_cons (gv_name 14 sc__law_right.nd) (gvs_cons (gv_name 15 sc__law_right.nd) (gvs_nil))))) (fun _ _ _ _ _ => ptv_nil) (fun _ _ _ _ _ => ev_var 15))))) (sts_cons (st_if (tv_w (tw_or (tv_cmpR (op_neP hr.units) rd_eq (ev_var 9) (ep_of (ev_b1 (cr_sum rfl) ok_sum Z.n_sum (by decide +kernel) (ep_new (eo_lc (own := [("name", 11), ("net", 16)]) rfl sc__law_right.nd rfl (iv_list (ev_var 6)) (blk_by (by kernel_rfl)) (fun _ _ _ _ _ => gv_tup rfl (gvs_cons (gv_name 11 sc__law_right.nd) (gvs_cons (gv_name 16 sc__law_right.nd) (gvs_nil)))) (fun _ _ _ _ _ => ptv_one (tv_cmpR (op_gtD hr.units) rd_ord (ev_var 16) (ep_of (ev_int)))) (fun _ _ _ _ _ => ev_var 16)))))) (tw_or1 (tv_w (tw_and (tv_cmpR (op_neP hr.units) rd_eq (ev_var 8) (ep_of (ev_tup (av_nil)))) (tw_and1 (tv_cmpR (op_geD hr.units) rd_ord (ev_b1 call_len ok_len Z.n_len (by decide +kernel) (ep_of (ev_var 8))) (ep_of (ev_b1 call_len ok_len Z.n_len (by decide +kernel) (ep_new (eo_lc (own := [("name", 11), ("net", 16)]) rfl sc__law_right.nd rfl (iv_list (ev_var 6)) (blk_by (by kernel_rfl)) (fun _ _ _ _ _ => gv_tup rfl (gvs_cons (gv_name 11 sc__law_right.nd) (gvs_cons (gv_name 16 sc__law_right.nd) (gvs_nil)))) (fun _ _ _ _ _ => ptv_one (tv_cmpR (op_neP hr.units) rd_eq (ev_var 16) (ep_of (ev_int)))) (fun _ _ _ _ _ => ev_int)))))))))))) (sts_one (st_ret (ev_bl))) (sts_nil)) (sts_cons (st_setK 7 hr.units (ev_int) (ev_str)) (sts_cons (st_set 10 sc__law_right.nd (ev_rvj (rv_callD (d__law_pick Z) (hr.mono (by decide)) (takes_of rfl rfl rfl rfl) (ag_s 0 (ag_d (ev_of (eo_lst (av_cons (ev_non) (av_cons (ev_of (eo_t1 call_list_of new_list Z.n_list (by decide +kernel) (ep_of (ev_var 2)))) (av_cons (ev_op op_addD ok_add (ev_var 2) (ev_tup (av_cons (ev_tup (av_cons (ev_str) (av_cons (ev_str) (av_cons (ev_int) (av_nil))))) (av_nil)))) (av_cons (ev_op op_addD ok_add (ev_var 2) (ev_tup (av_cons (ev_tup (av_cons (ev_str) (av_cons (ev_str) (av_nil)))) (av_nil)))) (av_cons (ev_tup (av_cons (ev_tup (av_cons (ev_str) (av_cons (ev_str) (av_cons (ev_int) (av_nil))))) (av_nil))) (av_cons (ev_tup (av_cons (ev_tup (av_cons (ev_str) (av_cons (ev_str) (av_cons (ev_int) (av_nil))))) (av_nil))) (av_cons (ev_tup (av_cons (ev_tup (av_cons (ev_str) (av_cons (ev_str) (av_cons (ev_int) (av_nil))))) (av_nil))) (av_cons (ev_op op_repT ok_repT (ev_tup (av_cons (ev_tup (av_cons (ev_str) (av_cons (ev_str) (av_cons (ev_int) (av_nil))))) (av_nil))) (ev_int)) (av_nil))))))))))) (ag_nil)))))) (sts_one (st_ret (ev_and (ev_cmpR (op_neM hr.units) rd_neM (ev_of (eo_rvj (rv_callD (d_nets Z) (hr.mono (by decide)) (takes_of rfl rfl rfl rfl) (ag_d (ev_var 2) (ag_nil))))) (ep_own 7)) (ev_one (ev_cmpR (op_eqP hr.units) rd_eq (ev_of (eo_lst (av_cons (ev_refD (k := 5) Er Z.d__law_refused Z.F__law_refused (fun _ _ _ _ _ _ us hl => match us, hl with | [_], _ => rfl) sc__law_refused rfl (.inl rfl) rfl rfl rfl rfl rfl (fun _ _ _ => rfl) (fun _ _ _ => rfl) Z.t__law_right hcdv mem__law_right (uniq__law_right Z) (hr.mono (by decide)) (LamX.lamS_by (by kernel_rfl)) rfl (fun _ _ _ _ _ => rfl) (fun A outer s H E f c' hr => ev_of (eo_rvj (rv_callD (d_nets Z) (hr.mono (by decide)) (takes_of rfl rfl rfl rfl) (ag_d (ev_var 10) (ag_nil)))))) (av_cons (ev_refD (k := 5) Er Z.d__law_refused Z.F__law_refused (fun _ _ _ _ _ _ us hl => match us, hl with | [_], _ => rfl) sc__law_refused rfl (.inl rfl) rfl rfl rfl rfl rfl (fun _ _ _ => rfl) (fun _ _ _ => rfl) Z.t__law_right hcdv mem__law_right (uniq__law_right Z) (hr.mono (by decide)) (LamX.lamS_by (by kernel_rfl)) rfl (fun _ _ _ _ _ => rfl) (fun A outer s H E f c' hr => ev_rvj (rv_callD (d_netted Z) (hr.mono (by decide)) (takes_of rfl rfl rfl rfl) (ag_d (ev_var 10) (ag_nil))))) (av_nil))))) (ep_new (eo_op op_rep new_rep (ev_of (eo_lst (av_cons (ev_str) (av_nil)))) (ep_of (ev_int)))))))))))))))))))
theorem d_law (Z : Ft P K mg base) : DOk P w K mg base (TT K) 9 "law" ["script"] s_law G_law := by
  obtain ⟨fd, F⟩ := Z.F_law
  exact mk_D (gb := g_law) Z.d_law F sc_law rfl (fun _ _ _ _ _ _ us hl => match us, hl with | [_], _ => rfl) (fun cdv hcdv A outer s H E hr => sts_cons (st_for (vs := [1]) (passes_of rfl) rfl (iv_range1 (ev_b2 (call_max2 rfl) ok_max2 Z.n_max (by decide +kernel) (ev_int) (ep_of (ev_b2 (call_min2 rfl) ok_min2 Z.n_min (by decide +kernel) (ev_int) (ep_of (ev_scrLen 0 Z.n_len))))) Z.n_range) (gv_name 1 sc_law.nd) (sts_one (st_if (tv_not (tv_of (ev_rvj (rv_callD (d__law_right Z) (hr.mono (by decide)) (takes_of rfl rfl rfl rfl) (ag_f (eo_rvj (rv_callD (d__law_dice Z) (hr.mono (by decide)) (takes_of rfl rfl rfl rfl) (ag_s 0 (ag_d (ev_var 1) (ag_nil)))))))))) (sts_one (st_ret (ev_bl))) (sts_nil)))) (sts_one (st_ret (ev_cmpR (op_eqP hr.units) rd_eq (ev_rvj (rv_callD (d_netted Z) (hr.mono (by decide)) (takes_of rfl rfl rfl rfl) (ag_d (ev_tup (av_cons (ev_tup (av_cons (ev_str) (av_cons (ev_str) (av_cons (ev_int) (av_nil))))) (av_cons (ev_tup (av_cons (ev_str) (av_cons (ev_str) (av_cons (ev_int) (av_nil))))) (av_nil)))) (ag_nil)))) (ep_of (ev_tup (av_cons (ev_tup (av_cons (ev_str) (av_cons (ev_str) (av_cons (ev_int) (av_nil))))) (av_nil))))))))
end
end Kk33
set_option Elab.async false
set_option linter.all false
set_option maxRecDepth 100000
set_option maxHeartbeats 1000000
namespace Kk33
open PySem PySem.Spec PyProof.Rows L2 DL
/-! the dice -/
/-- dice that were rolled n times at most -/
def Dice (n : Nat) (o : OC) : Prop := ∃ b m c : Int, o = .l [.int b, .int m, .int c] ∧ 0 ≤ b ∧ 0 ≤ m ∧ m < 2147480009 ∧ 0 ≤ c ∧ c ≤ n
theorem Dice.mono {n k : Nat} {o : OC} (h : Dice n o) (hk : n ≤ k) : Dice k o := by
  obtain ⟨b, m, c, e, h1, h2, h3, h4, h5⟩ := h
  exact ⟨b, m, c, e, h1, h2, h3, h4, by omega⟩
theorem S_roll {n : Nat} {o : OC} {t : Int} (h : Dice n o) (hn : n < 1000000000000) (ht : 0 < t) (ht2 : t < 1073741824) :
    ∃ r o', G__law_roll [.o o, .d (.int t)] = .ok (.d (.int r)) [some o', none] ∧ 0 ≤ r ∧ r < t ∧ Dice (n + 1) o' := by
  obtain ⟨b, m, c, rfl, h1, h2, h3, h4, h5⟩ := h
  have e0 : ∀ x y z : D, dIx (.list [x, y, z]) (.int 0) = some x := fun _ _ _ => rfl
  have e1 : ∀ x y z : D, dIx (.list [x, y, z]) (.int 1) = some y := fun _ _ _ => rfl
  have e2 : ∀ x y z : D, dIx (.list [x, y, z]) (.int 2) = some z := fun _ _ _ => rfl
  have i0 : ixN 3 0 = some 0 := rfl
  have i1 : ixN 3 1 = some 1 := rfl
  have i2 : ixN 3 2 = some 2 := rfl
  have bd : ∀ x : Int, 0 ≤ x → x < 18446744073709551616 → -(2 ^ 64) < x ∧ x < 2 ^ 64 := fun x a b => ⟨by omega, by omega⟩
  by_cases hb : 0 < b
  · refine ⟨b % t, .l [.int (b / t), .int m, .int c], ?_, Int.emod_nonneg _ (by omega), Int.emod_lt_of_pos _ ht, b / t, m, c, rfl, Int.ediv_nonneg h1 (by omega), h2, h3, h4, by omega⟩
    simp [G__law_roll, g__law_roll, e0, hb, dMod_ii ht, dDiv_ii ⟨ht, ht2⟩, i0]
  · have hc : (0 : Int) ≤ c + 1 := by omega
    have hc2 : c + 1 < 18446744073709551616 := by omega
    refine ⟨((m * 52501 + (c + 1) * (c + 1) * 1009 + 77) % 2147480009 / 211) % t, .l [.int b, .int ((m * 52501 + (c + 1) * (c + 1) * 1009 + 77) % 2147480009), .int (c + 1)], ?_, Int.emod_nonneg _ (by omega), Int.emod_lt_of_pos _ ht, b, _, c + 1, rfl, h1, Int.emod_nonneg _ (by omega), Int.emod_lt_of_pos _ (by omega), hc, by omega⟩
    have k1 : dMul (.int m) (.int 52501) = some (.int (m * 52501)) := dMul_ii (.inr (by decide))
    have k2 : dMul (.int (c + 1)) (.int (c + 1)) = some (.int ((c + 1) * (c + 1))) := dMul_ii (.inl (bd _ hc hc2))
    have k3 : dMul (.int ((c + 1) * (c + 1))) (.int 1009) = some (.int ((c + 1) * (c + 1) * 1009)) := dMul_ii (.inr (by decide))
    simp [G__law_roll, g__law_roll, e0, e1, e2, hb, i0, i1, i2, dMod_ii, dDiv_ii, ht, k1, k2, k3]
/-- a thing of a list is picked -/
theorem S_pick {n : Nat} {o : OC} {xs : List D} (h : Dice n o) (hn : n < 1000000000000) (hx : xs ≠ []) (hl : xs.length < 1000) :
    ∃ x o', G__law_pick [.o o, .d (.list xs)] = .ok (.d x) [some o', none] ∧ x ∈ xs ∧ Dice (n + 1) o' := by
  have hp : 0 < xs.length := List.length_pos_iff.mpr hx
  obtain ⟨r, o', e, r1, r2, r3⟩ := S_roll (t := (xs.length : Nat)) h hn (by omega) (by omega)
  obtain ⟨j, rfl⟩ : ∃ j : Nat, r = (j : Int) := ⟨r.toNat, by omega⟩
  have hj : j < xs.length := by omega
  refine ⟨xs[j], o', ?_, List.getElem_mem hj, r3⟩
  simp [G__law_pick, g__law_pick, e, dIx_l (List.getElem?_eq_getElem hj)]
def cutN {α : Type} (xs : List α) (lo hi : Option Int) : List α := (xs.drop (HT.sIx xs.length 0 lo)).take (HT.sIx xs.length xs.length hi - HT.sIx xs.length 0 lo)
theorem cutD_map {α : Type} (f : α → D) (xs : List α) (lo hi : Option Int)   : DL.cutD (xs.map f) lo hi = (cutN xs lo hi).map f := by
  unfold DL.cutD cutN
  rw [List.length_map, List.map_take, List.map_drop]
theorem cutN_le {α : Type} (xs : List α) (lo hi : Option Int) : (cutN xs lo hi).length ≤ xs.length := by
  unfold cutN
  rw [List.length_take, List.length_drop]
  omega
theorem S_dice {ns : List Int} {i : Nat} (hl : ns.length ≤ 63) : ∃ o, G__law_dice [.q ns, .d (.int (i : Nat))] = .ok (.o o) [none, none] ∧ Dice 0 o := by
  have main : ∀ own : Int, ∃ m v : Int, 0 ≤ m ∧ m < 2147480009 ∧ ∃ x : SV, forLoop (fName 4) (gAsg 3 (gOp dMod (gUn dInt (gOp dAdd (gOp dMul (gVar 3) (gC (.int 48271))) (gOp dMod (gUn dInt (gVar 4)) (gC (.int 2147480009))))) (gC (.int 2147480009))))
      ((cutN ns none (some 6) ++ [own]).map PyData.int) [some (.q ns), some (.d (.int (i : Nat))), some (.d (.int own)), some (.d (.int (910003 + 7907 * (i : Nat)))), none] = .ok .nx [some (.q ns), some (.d (.int (i : Nat))), some (.d (.int own)), some (.d (.int m)), some x] := fun own => by
    obtain ⟨fl, δ, e, h⟩ := for_run (B := fun _ => False) (T := fun _ _ => False) ((cutN ns none (some 6) ++ [own]).map PyData.int)
      (fun j δ => ∃ (m : Int) (x : Option SV), δ = [some (.q ns), some (.d (.int (i : Nat))), some (.d (.int own)), some (.d (.int m)), x] ∧ (0 < j → (0 ≤ m ∧ m < 2147480009) ∧ x.isSome = true))
      [some (.q ns), some (.d (.int (i : Nat))), some (.d (.int own)), some (.d (.int (910003 + 7907 * (i : Nat)))), none] ⟨_, _, rfl, fun z => absurd z (by omega)⟩
      (tg := fName 4) (gb := gAsg 3 (gOp dMod (gUn dInt (gOp dAdd (gOp dMul (gVar 3) (gC (.int 48271))) (gOp dMod (gUn dInt (gVar 4)) (gC (.int 2147480009))))) (gC (.int 2147480009))))
      (fun j d δ hd ⟨m, x, e, _⟩ => by
        subst e
        obtain ⟨c, hc, rfl⟩ := List.mem_map.mp (List.mem_of_getElem? hd)
        have k1 : dMul (.int m) (.int 48271) = some (.int (m * 48271)) := dMul_ii (.inr (by decide))
        refine ⟨[some (.q ns), some (.d (.int (i : Nat))), some (.d (.int own)), some (.d (.int m)), some (.d (.int c))], rfl, .nx, [some (.q ns), some (.d (.int (i : Nat))), some (.d (.int own)), some (.d (.int ((m * 48271 + c % 2147480009) % 2147480009))), some (.d (.int c))], by simp [k1, dMod_ii],
          _, _, rfl, fun _ => ⟨⟨Int.emod_nonneg _ (by omega), Int.emod_lt_of_pos _ (by omega)⟩, rfl⟩⟩)
    cases fl with
    | nx =>
      rcases h with ⟨m, x, rfl, hm⟩ | h
      · obtain ⟨⟨h1, h2⟩, h3⟩ := hm (by simp)
        cases x with
        | none => cases h3
        | some x => exact ⟨m, 0, h1, h2, x, e⟩
      · exact h.elim
    | bk => exact h.elim
    | ct => exact h.elim
    | rt v => exact h.elim
  have p16 : dPow (.int 10) (.int 16) = some (.int 10000000000000000) := by rfl
  have k0 : dMul (.int 7907) (.int (i : Nat)) = some (.int (7907 * (i : Nat))) := dMul_ii (.inl (by decide))
  have k9 : dMul (.int 733) (.int (i : Nat)) = some (.int (733 * (i : Nat))) := dMul_ii (.inl (by decide))
  have cl := cutN_le ns none (some 6)
  have cc : ∀ own : Int, cCat (.list ((cutN ns none (some 6)).map PyData.int)) (.list [.int own]) = some (.l ((cutN ns none (some 6) ++ [own]).map PyData.int)) := fun own => by
    show (if ((cutN ns none (some 6)).map PyData.int).length + [PyData.int own].length ≤ sizeLine then some (OC.l ((cutN ns none (some 6)).map PyData.int ++ [.int own])) else none) = _
    rw [if_pos (small_line (by simp; omega))]
    simp
  have own : ∃ own : Int, (gIfE (gT (gOp dLt (gVar 1) (gScrLen 0))) (gScrIx 0 (gVar 1)) (gOp dAdd (gOp dMul (gC (.int 733)) (gVar 1)) (gC (.int 29)))) [some (.q ns), some (.d (.int (i : Nat))), none, none, none] = .ok (.int own) [some (.q ns), some (.d (.int (i : Nat))), none, none, none] := by
    by_cases hi : i < ns.length
    · refine ⟨ns[i], ?_⟩
      have z : dIx (.list (ns.map PyData.int)) (.int (i : Nat)) = some (.int ns[i]) := dIx_l (by simp [hi])
      simp [hi, z]
    · exact ⟨733 * (i : Nat) + 29, by simp [hi, k9]⟩
  obtain ⟨own, eown⟩ := own
  obtain ⟨m, v, h1, h2, x, e⟩ := main own
  have hb : ∃ b : Int, 0 ≤ b ∧ (gIfE (gOr (gT (gOp dLt (gVar 2) (gC (.int 0)))) (gT (gOp dGe (gVar 2) (gOp dPow (gC (.int 10)) (gC (.int 16)))))) (gUn dAbs (gVar 2)) (gC (.int 0))) [some (.q ns), some (.d (.int (i : Nat))), some (.d (.int own)), some (.d (.int m)), some x]
      = .ok (.int b) [some (.q ns), some (.d (.int (i : Nat))), some (.d (.int own)), some (.d (.int m)), some x] := by
    by_cases c1 : own < 0
    · exact ⟨-own, by omega, by simp [c1, p16, dAbs]⟩
    · by_cases c2 : 10000000000000000 ≤ own
      · exact ⟨own, by omega, by simp [c1, c2, p16, dAbs]⟩
      · exact ⟨0, by omega, by simp [c1, c2, p16, dAbs]⟩
  obtain ⟨b, hb0, eb⟩ := hb
  refine ⟨.l [.int b, .int m, .int 0], ?_, b, m, 0, rfl, hb0, h1, h2, by omega, by omega⟩
  have hA : (gAsg 2 (gIfE (gT (gOp dLt (gVar 1) (gScrLen 0))) (gScrIx 0 (gVar 1)) (gOp dAdd (gOp dMul (gC (.int 733)) (gVar 1)) (gC (.int 29))))) [some (.q ns), some (.d (.int (i : Nat))), none, none, none] = .ok .nx [some (.q ns), some (.d (.int (i : Nat))), some (.d (.int own)), none, none] := by
    rw [gAsg_ap, eown]
    rfl
  have hB : (gAsg 3 (gOp dAdd (gC (.int 910003)) (gOp dMul (gC (.int 7907)) (gVar 1)))) [some (.q ns), some (.d (.int (i : Nat))), some (.d (.int own)), none, none] = .ok .nx [some (.q ns), some (.d (.int (i : Nat))), some (.d (.int own)), some (.d (.int (910003 + 7907 * (i : Nat)))), none] := by
    simp [k0]
  have hI : gItL (gD (gOpN cCat (gD (gScrSl 0 gPartN (gPart (gC (.int 6))))) (gD (gLst (gCons (gVar 2) gNil))))) [some (.q ns), some (.d (.int (i : Nat))), some (.d (.int own)), some (.d (.int (910003 + 7907 * (i : Nat)))), none]
      = .ok ((cutN ns none (some 6) ++ [own]).map PyData.int) [some (.q ns), some (.d (.int (i : Nat))), some (.d (.int own)), some (.d (.int (910003 + 7907 * (i : Nat)))), none] := by
    simp [cSlL, cutD_map, cc]
  have hD : gRetO (gLst (gCons (gIfE (gOr (gT (gOp dLt (gVar 2) (gC (.int 0)))) (gT (gOp dGe (gVar 2) (gOp dPow (gC (.int 10)) (gC (.int 16)))))) (gUn dAbs (gVar 2)) (gC (.int 0))) (gCons (gVar 3) (gCons (gC (.int 0)) gNil)))) [some (.q ns), some (.d (.int (i : Nat))), some (.d (.int own)), some (.d (.int m)), some x]
      = .ok (.rt (.o (.l [.int b, .int m, .int 0]))) [some (.q ns), some (.d (.int (i : Nat))), some (.d (.int own)), some (.d (.int m)), some x] := by
    rw [gRetO_ap, gLst_ap, gCons_ap, eb]
    simp
  show toRF 2 (g__law_dice _) = _
  unfold g__law_dice
  rw [gSeq_ap, show ([SV.q ns, SV.d (PyData.int (i : Nat))].map some ++ List.replicate 3 none : SS) = [some (.q ns), some (.d (.int (i : Nat))), none, none, none] from rfl, hA]
  dsimp only
  rw [gSeq_ap, hB]
  dsimp only
  rw [gSeq_ap, gFor_ap, hI, bind_ok, e]
  dsimp only
  rw [hD]
  rfl
end Kk33
set_option Elab.async false
set_option linter.all false
set_option maxRecDepth 100000
set_option maxHeartbeats 1000000
namespace Kk33
open PySem PySem.Spec PyProof.Rows L2 DL
def isI : D → Bool
  | .int _ => true
  | _ => false
theorem S_is_integer (x : D) : G_is_integer [.d x] = .ok (.d (.bool (isI x))) [none] := by
  cases x <;> rfl
def inB' (lo hi : Int) : D → Bool
  | .int i => decide (lo ≤ i ∧ i ≤ hi)
  | _ => false
theorem S_is_in (x : D) (lo hi : Int) : G_is_in [.d x, .d (.int lo), .d (.int hi)] = .ok (.d (.bool (inB' lo hi x))) [none, none, none] := by
  cases x with
  | int i =>
    simp [G_is_in, g_is_in, S_is_integer, isI, inB']
    by_cases h : lo ≤ i <;> simp [h]
  | _ => simp [G_is_in, g_is_in, S_is_integer, isI, inB']
def tupN (n : Int) : D → Bool
  | .tuple xs => decide ((xs.length : Int) = n)
  | _ => false
theorem isi_tuple (x : D) : dIsi "tuple" x = some (.bool (match x with | .tuple _ => true | _ => false)) := by cases x <;> rfl
theorem S_is_tuple_of (x : D) (n : Int) : G_is_tuple_of [.d x, .d (.int n)] = .ok (.d (.bool (tupN n x))) [none, none] := by
  cases x <;> simp [G_is_tuple_of, g_is_tuple_of, isi_tuple, tupN]
def tupMost (n : Int) : D → Bool
  | .tuple xs => decide ((xs.length : Int) ≤ n)
  | _ => false
theorem S_are_at_most (x : D) (n : Int) : G_are_at_most [.d x, .d (.int n)] = .ok (.d (.bool (tupMost n x))) [none, none] := by
  cases x <;> simp [G_are_at_most, g_are_at_most, isi_tuple, tupMost]
theorem S_demand_t (s : Str) : G_demand [.d (.bool true), .d (.str s)] = .ok (.d .none) [none, none] := by
  simp [G_demand, g_demand]
theorem S_demand_f (s : Str) : G_demand [.d (.bool false), .d (.str s)] = .ex "BadArgument" "name" (.str s) [none, none] := by
  simp [G_demand, g_demand]
/-! names -/
def letB (c : Nat) : Bool := decide (c ∈ (("abcdefghijklmnopqrstuvwxyz" : Str)).cps.toList)
def nameB (z : Str) : Bool := decide (1 ≤ z.length) && (decide (z.length ≤ 8) && z.cps.toList.all letB)
theorem isi_str (x : D) : dIsi "str" x = some (.bool (match x with | .str _ => true | _ => false)) := by cases x <;> rfl
theorem dLen_s {z : Str} (h : z.length ≤ 1000000) : dLen (.str z) = some (.int z.length) := by
  show (if z.length ≤ sizeLine then some (PyData.int z.length) else none) = _
  rw [if_pos (small_line h)]
theorem inS_let (c : Nat) : dInS (.str ⟨#[c]⟩) (.str "abcdefghijklmnopqrstuvwxyz") = some (.bool (letB c)) := rfl
theorem S_is_name (z : Str) (hz : z.length ≤ 1000) : G_is_name [.d (.str z)] = .ok (.d (.bool (nameB z))) [none] := by
  have hl := dLen_s (z := z) (by omega)
  have hc : z.cps.toList.length ≤ 1000 := hz
  have h : ∀ δ : SS, δ = [some (.d (.str z)), none] → gLc [1] (gItS (gVar 0)) (fName 1) gYes (gOp dInS (gVar 1) (gC (.str "abcdefghijklmnopqrstuvwxyz"))) δ = .ok (.l (z.cps.toList.map fun c => .bool (letB c))) δ := fun δ e => by
    subst e
    exact gLc_map (fun c : Nat => .str ⟨#[c]⟩) (fun c => .bool (letB c)) z.cps.toList (by simp [signsD]) (small_line (by omega)) fun c _ => by simp [lcOne, inS_let]
  have h0 := h _ rfl
  have hA : dAll (.list (z.cps.toList.map fun c => .bool (letB c))) = some (.bool (z.cps.toList.all letB)) := dAll_mapB _ _
  unfold nameB
  generalize z.cps.toList.all letB = bb at hA
  by_cases c1 : 1 ≤ z.length
  · by_cases c2 : z.length ≤ 8
    · have c1' : (1 : Int) ≤ (z.length : Int) := by omega
      have c2' : (z.length : Int) ≤ 8 := by omega
      simp [G_is_name, g_is_name, isi_str, hl, c1, c2, c1', c2', h0, hA]
    · have c1' : (1 : Int) ≤ (z.length : Int) := by omega
      have c2' : ¬ (z.length : Int) ≤ 8 := by omega
      simp [G_is_name, g_is_name, isi_str, hl, c1, c2, c1', c2']
  · have c1' : ¬ (1 : Int) ≤ (z.length : Int) := by omega
    simp [G_is_name, g_is_name, isi_str, hl, c1, c1']
/-! owings -/
def oD (o : O) : D := .tuple [.str o.1, .str o.2.1, .int o.2.2]
def owB (o : O) : Bool := nameB o.1 && (nameB o.2.1 && (decide (o.1 ≠ o.2.1) && decide (1 ≤ o.2.2 ∧ o.2.2 ≤ 100000)))
theorem eqB_ss (a b : Str) : eqB (.str a) (.str b) = true := by simp [eqB, PyData.plain, PyData.depth]
theorem dNe_ss (a b : Str) : dNe (.str a) (.str b) = some (.bool (decide (a ≠ b))) := by
  simp only [dNe, dEqF, eqB_ss, PyData.eqv, if_true]
  by_cases c : a = b <;> simp [c]
theorem oD_0 (o : O) : dIx (oD o) (.int 0) = some (.str o.1) := rfl
theorem oD_1 (o : O) : dIx (oD o) (.int 1) = some (.str o.2.1) := rfl
theorem oD_2 (o : O) : dIx (oD o) (.int 2) = some (.int o.2.2) := rfl
theorem S_is_owing (o : O) (h1 : o.1.length ≤ 1000) (h2 : o.2.1.length ≤ 1000) : G_is_owing [.d (oD o)] = .ok (.d (.bool (owB o))) [none] := by
  have ht : tupN 3 (oD o) = true := rfl
  unfold owB
  have e1 := S_is_name o.1 h1
  have e2 := S_is_name o.2.1 h2
  cases n1 : nameB o.1 with
  | false => simp [G_is_owing, g_is_owing, S_is_tuple_of, ht, oD_0, oD_1, oD_2, e1, n1]
  | true =>
    cases n2 : nameB o.2.1 with
    | false => simp [G_is_owing, g_is_owing, S_is_tuple_of, ht, oD_0, oD_1, oD_2, e1, e2, n1, n2]
    | true =>
      by_cases c : o.1 = o.2.1
      · simp [G_is_owing, g_is_owing, S_is_tuple_of, ht, oD_0, oD_1, oD_2, e1, e2, n1, n2, dNe_ss, c, -ne_eq]
      · simp [G_is_owing, g_is_owing, S_is_tuple_of, ht, oD_0, oD_1, oD_2, e1, e2, n1, n2, dNe_ss, c, S_is_in, inB', -ne_eq]
theorem is_owing_n {x : D} (h : tupN 3 x = false) : G_is_owing [.d x] = .ok (.d (.bool false)) [none] := by
  simp [G_is_owing, g_is_owing, S_is_tuple_of, h]
theorem S_are_owings (xs : List D) (f : D → Bool) (hf : ∀ x ∈ xs, G_is_owing [.d x] = .ok (.d (.bool (f x))) [none]) (hl : xs.length ≤ 1000) : G_are_owings [.d (.tuple xs)] = .ok (.d (.bool (decide ((xs.length : Int) ≤ 100) && xs.all f))) [none] := by
  have h : ∀ δ : SS, δ = [some (.d (.tuple xs)), none] → gLc [1] (gItT (gVar 0)) (fName 1) gYes (gOfR (gCallR 1 G_is_owing (gAgD (gVar 1) gAg0))) δ = .ok (.l (xs.map fun x => .bool (f x))) δ := fun δ e => by
    subst e
    exact gLc_map id (fun x => .bool (f x)) xs (by simp) (small_line (by omega)) fun x hx => by simp [lcOne, hf x hx]
  have h0 := h _ rfl
  have hA : dAll (.list (xs.map fun x => .bool (f x))) = some (.bool (xs.all f)) := dAll_mapB _ _
  by_cases c : (xs.length : Int) ≤ 100
  · simp [G_are_owings, g_are_owings, S_are_at_most, tupMost, c, h0, hA]
  · simp [G_are_owings, g_are_owings, S_are_at_most, tupMost, c]
theorem are_owings_n {x : D} (h : tupMost 100 x = false) : G_are_owings [.d x] = .ok (.d (.bool false)) [none] := by
  simp [G_are_owings, g_are_owings, S_are_at_most, h]
end Kk33
set_option Elab.async false
set_option linter.all false
set_option maxRecDepth 100000
set_option maxHeartbeats 1000000
namespace Kk33
open PySem PySem.Spec PyProof.Rows L2 DL
/-! dicts of ints by texts, in slots -/
theorem valD_get (kvs : List (Str × Int)) (s : Str) : (valD (mD kvs) (.inr s)).getD (.int 0) = .int ((valI kvs s).getD 0) := by
  rw [valD_mD]
  cases valI kvs s <;> rfl
theorem mD_small {kvs : List (Str × Int)} (h : kvs.length ≤ 1000) : (mD kvs).length < sizeLine := by
  rw [mD_len, sizeLine_eq]
  omega
theorem putI_len (kvs : List (Str × Int)) (s : Str) (n : Int) : (putI kvs s n).length ≤ kvs.length + 1 := by
  unfold putI
  split
  · rw [List.length_map]
    omega
  · simp
theorem stepN_len (kvs : List (Str × Int)) (o : O) : (stepN kvs o).length ≤ kvs.length + 2 := by
  unfold stepN
  have h1 := putI_len kvs o.1 ((valI kvs o.1).getD 0 - o.2.2)
  have h2 := putI_len (putI kvs o.1 ((valI kvs o.1).getD 0 - o.2.2)) o.2.1 ((valI (putI kvs o.1 ((valI kvs o.1).getD 0 - o.2.2)) o.2.1).getD 0 + o.2.2)
  omega
theorem fold_len : ∀ (rows : List O) (kvs : List (Str × Int)), (rows.foldl stepN kvs).length ≤ kvs.length + 2 * rows.length
  | [], _ => by simp
  | o :: r, kvs => by
    have h1 := fold_len r (stepN kvs o)
    have h2 := stepN_len kvs o
    rw [List.foldl_cons, List.length_cons]
    omega
noncomputable abbrev gStep : SS → DL.R Fl := gSeq (gSetK 1 (gOp dSub (gDGet 1 (gVar 2) (gC (.int 0))) (gVar 4)) (gVar 2)) (gSetK 1 (gOp dAdd (gDGet 1 (gVar 3) (gC (.int 0))) (gVar 4)) (gVar 3))
theorem step_ok (kvs : List (Str × Int)) (o : O) (x0 : Option SV) (r : SS) (hl : kvs.length ≤ 900) :
    gStep (x0 :: some (.o (.m (mD kvs))) :: some (.d (.str o.1)) :: some (.d (.str o.2.1)) :: some (.d (.int o.2.2)) :: r) = .ok .nx (x0 :: some (.o (.m (mD (stepN kvs o)))) :: some (.d (.str o.1)) :: some (.d (.str o.2.1)) :: some (.d (.int o.2.2)) :: r) := by
  have h1 := mD_small (kvs := kvs) (by omega)
  have h2 := mD_small (kvs := putI kvs o.1 ((valI kvs o.1).getD 0 - o.2.2)) (by have := putI_len kvs o.1 ((valI kvs o.1).getD 0 - o.2.2); omega)
  unfold gStep stepN
  simp [valD_get, h1, putD_mD, h2]
theorem rows_fold {rows : List O} {x0 : Option SV} {r : SS} (hr : rows.length ≤ 400) :
    ∃ u2 u3 u4, forLoop (fTup 3 (fCons (fName 2) (fCons (fName 3) (fCons (fName 4) fNil)))) gStep (rows.map oD) (x0 :: some (.o (.m [])) :: none :: none :: none :: r) = .ok .nx (x0 :: some (.o (.m (mD (kvN rows)))) :: u2 :: u3 :: u4 :: r) := by
  obtain ⟨fl, δ', e, h1⟩ := for_run (B := fun _ => False) (T := fun _ _ => False) (tg := fTup 3 (fCons (fName 2) (fCons (fName 3) (fCons (fName 4) fNil)))) (gb := gStep) (rows.map oD)
    (fun j δ => ∃ (u2 u3 u4 : Option SV), δ = (x0 :: some (.o (.m (mD ((rows.take j).foldl stepN [])))) :: u2 :: u3 :: u4 :: r : SS))
    (x0 :: some (.o (.m [])) :: none :: none :: none :: r) ⟨none, none, none, rfl⟩
    (fun j d δ hd ⟨u2, u3, u4, e⟩ => by
      subst e
      rw [List.getElem?_map] at hd
      cases hp : rows[j]? with
      | none =>
        rw [hp] at hd
        cases hd
      | some o =>
        rw [hp] at hd
        cases hd
        have htk : rows.take (j + 1) = rows.take j ++ [o] := by
          rw [List.take_succ, hp]
          rfl
        have hl := fold_len (rows.take j) []
        have hl2 : (rows.take j).length ≤ rows.length := by rw [List.length_take]; omega
        have hs := step_ok ((rows.take j).foldl stepN []) o x0 r (by simp only [List.length_nil] at hl; omega)
        refine ⟨_, ?_, .nx, _, hs, some (.d (.str o.1)), some (.d (.str o.2.1)), some (.d (.int o.2.2)), ?_⟩
        · simp [oD]
        · rw [htk, List.foldl_append]
          rfl)
  rw [List.length_map, List.take_length] at h1
  cases fl with
  | nx =>
    rcases h1 with ⟨u2, u3, u4, rfl⟩ | h1
    · exact ⟨u2, u3, u4, e⟩
    · exact h1.elim
  | bk => exact h1.elim
  | ct => exact h1.elim
  | rt v => exact h1.elim
theorem sortedK_mD {kvs : List (Str × Int)} (h : kvs.length < 64) : cSortedK (.dict (mD kvs)) = some (.l ((sortS (keysI kvs)).map .str)) := by
  show (keysS (mD kvs)).bind (fun zs => if zs.length < 64 then some (OC.l ((sortS zs).map .str)) else none) = _
  rw [keysS_mD]
  show (if (kvs.map (·.1)).length < 64 then some (OC.l ((sortS (kvs.map (·.1))).map .str)) else none) = _
  rw [if_pos (by simpa using h)]
  rfl
theorem val_in {kvs : List (Str × Int)} {z : Str} (h : z ∈ keysI kvs) : valI kvs z = some ((valI kvs z).getD 0) := by
  cases hv : valI kvs z with
  | some n => rfl
  | none =>
    unfold valI at hv
    rw [Option.map_eq_none_iff, List.find?_eq_none] at hv
    obtain ⟨p, hp, e⟩ := List.mem_map.mp h
    exact absurd (decide_eq_true e) (by simpa using hv p hp)
theorem valD_in {kvs : List (Str × Int)} {z : Str} (h : z ∈ keysI kvs) : valD (mD kvs) (.inr z) = some (.int ((valI kvs z).getD 0)) := by
  rw [valD_mD, val_in h]
  rfl
theorem srt_mem {kvs : List (Str × Int)} {z : Str} (h : z ∈ sortS (keysI kvs)) : z ∈ keysI kvs := (List.mergeSort_perm _ _).mem_iff.mp h
theorem srt_len (kvs : List (Str × Int)) : (sortS (keysI kvs)).length = kvs.length := by
  unfold sortS keysI
  rw [List.length_mergeSort, List.length_map]
def pairD (p : Str × Int) : D := .tuple [.str p.1, .int p.2]
theorem S_own_nets (rows : List O) (x : D) (hx : x = .tuple (rows.map oD) ∨ x = .list (rows.map oD)) (hr : rows.length ≤ 400) (hk : (kvN rows).length < 64) : G__law_own_nets [.d x] = .ok (.o (.l ((dueL rows).map pairD))) [none] := by
  obtain ⟨u2, u3, u4, h1⟩ := rows_fold (rows := rows) (x0 := some (.d x)) (r := [none]) hr
  have hs := sortedK_mD hk
  have z : gLc [5] (gItL (gD (gUnN cSortedK (gOwn 1)))) (fName 5) (gYes) (gTup (gCons (gVar 5) (gCons (gDIx 1 (gVar 5)) (gNil)))) [some (.d x), some (.o (.m (mD (kvN rows)))), u2, u3, u4, none]
      = .ok (.l ((dueL rows).map pairD)) [some (.d x), some (.o (.m (mD (kvN rows)))), u2, u3, u4, none] := by
    unfold dueL
    rw [List.map_map]
    refine gLc_map PyData.str _ (nm rows) (by simp [hs, nm]) (small_line (by have := srt_len (kvN rows); unfold nm; omega)) fun y hy => ?_
    have hv := valD_in (srt_mem hy)
    rw [val_kvN] at hv
    cases u2 <;> cases u3 <;> cases u4 <;> simp [lcOne, hv, pairD] <;> (repeat' constructor) <;> split <;> simp_all
  have hit : gItA (gVar 0) [some (.d x), some (.o (.m [])), none, none, none, none] = .ok (rows.map oD) [some (.d x), some (.o (.m [])), none, none, none, none] := by
    rcases hx with rfl | rfl <;> simp
  show toRF 1 (g__law_own_nets _) = _
  unfold g__law_own_nets
  rw [gSeq_ap, show gAsgO 1 gNewM ([SV.d x].map some ++ List.replicate 5 none : SS) = .ok .nx [some (.d x), some (.o (.m [])), none, none, none, none] by simp]
  dsimp only
  rw [gSeq_ap, gFor_ap, hit, bind_ok]
  unfold gStep at h1
  rw [h1]
  dsimp only
  rw [gRetO_ap, z]
  rfl
theorem mD_map (N : List Str) (v : Str → Int) : mD (N.map fun z => (z, v z)) = N.map fun z => (PyData.str z, PyData.int (v z)) := by
  unfold mD
  rw [List.map_map]
  rfl
theorem fold_put (v : Str → Int) : ∀ (M L : List Str), (L ++ M).Nodup → M.foldl (fun ys z => putD ys (.inr z) (.int (v z))) (mD (L.map fun z => (z, v z))) = mD ((L ++ M).map fun z => (z, v z))
  | [], L, _ => by simp
  | z :: M, L, h => by
    rw [List.foldl_cons, putD_mD]
    have hn : z ∉ keysI (L.map fun z => (z, v z)) := by
      unfold keysI
      rw [List.map_map]
      intro hz
      obtain ⟨y, hy, e⟩ := List.mem_map.mp hz
      have e' : y = z := e
      rw [List.nodup_append] at h
      exact h.2.2 y hy z (by simp) e'
    have e : putI (L.map fun z => (z, v z)) z (v z) = (L ++ [z]).map fun z => (z, v z) := by
      unfold putI
      rw [if_neg]
      · simp
      · intro ha
        obtain ⟨p, hp, he⟩ := List.any_eq_true.mp ha
        exact hn (List.mem_map.mpr ⟨p, hp, of_decide_eq_true he⟩)
    rw [e, fold_put v M (L ++ [z]) (by simpa using h)]
    simp
theorem S_sorted_dict {kvs : List (Str × Int)} (hn : (keysI kvs).Nodup) (h : kvs.length < 64) :
    G_sorted_dict [.o (.m (mD kvs))] = .ok (.o (.m (mD ((sortS (keysI kvs)).map fun z => (z, (valI kvs z).getD 0))))) [some (.m (mD kvs))] := by
  have hs := sortedK_mD h
  have z : gDc [1] (gItL (gD (gUnN cSortedK (gOwn 0)))) (fName 1) (gYes) (gVar 1) (gDIx 0 (gVar 1)) [some (.o (.m (mD kvs))), none] = .ok (.m (mD ((sortS (keysI kvs)).map fun z => (z, (valI kvs z).getD 0)))) [some (.o (.m (mD kvs))), none] := by
    have hnd : (sortS (keysI kvs)).Nodup := (List.mergeSort_perm _ _).nodup_iff.mpr hn
    have hf := fold_put (fun z => (valI kvs z).getD 0) (sortS (keysI kvs)) [] (by simpa using hnd)
    rw [show ([] ++ sortS (keysI kvs)) = sortS (keysI kvs) from rfl] at hf
    rw [← hf]
    refine gDc_map PyData.str (fun z => .inr z) (fun z => .int ((valI kvs z).getD 0)) (sortS (keysI kvs)) (by simp [hs]) (small_line (by have := srt_len kvs; omega)) fun y hy => ?_
    simp [dcOne, valD_in (srt_mem hy)]
  simp [G_sorted_dict, g_sorted_dict, z]
theorem S_nets_of (rows : List O) (hr : rows.length ≤ 400) (hk : (kvN rows).length < 64) : G_nets_of [.d (.tuple (rows.map oD))] = .ok (.o (.m (mD (dueL rows)))) [none] := by
  obtain ⟨u2, u3, u4, h1⟩ := rows_fold (rows := rows) (x0 := some (.d (.tuple (rows.map oD)))) (r := []) hr
  have hs := S_sorted_dict (nd_kvN rows) hk
  rw [show ((sortS (keysI (kvN rows))).map fun z => (z, (valI (kvN rows) z).getD 0)) = dueL rows from by
    unfold dueL nm
    exact List.map_congr_left fun z _ => by rw [val_kvN]] at hs
  show toRF 1 (g_nets_of _) = _
  unfold g_nets_of
  rw [gSeq_ap, show gAsgO 1 gNewM ([SV.d (.tuple (rows.map oD))].map some ++ List.replicate 4 none : SS) = .ok .nx [some (.d (.tuple (rows.map oD))), some (.o (.m [])), none, none, none] by simp]
  dsimp only
  rw [gSeq_ap, gFor_ap, show gItT (gVar 0) [some (.d (.tuple (rows.map oD))), some (.o (.m [])), none, none, none] = .ok (rows.map oD) [some (.d (.tuple (rows.map oD))), some (.o (.m [])), none, none, none] by simp, bind_ok]
  unfold gStep at h1
  rw [h1]
  dsimp only
  simp [hs]
/-! valid owings -/
structure VO (rows : List O) : Prop where
  len : rows.length ≤ 100
  all : rows.all owB = true
  sml : ∀ o ∈ rows, o.1.length ≤ 1000 ∧ o.2.1.length ≤ 1000
  few : (kvN rows).length < 64
theorem V_are {rows : List O} (v : VO rows) : G_are_owings [.d (.tuple (rows.map oD))] = .ok (.d (.bool true)) [none] := by
  have h := S_are_owings (rows.map oD) (fun x => match x with | .tuple [.str a, .str b, .int n] => owB (a, b, n) | _ => false) (fun x hx => by
    obtain ⟨o, ho, rfl⟩ := List.mem_map.mp hx
    exact S_is_owing o (v.sml o ho).1 (v.sml o ho).2) (by have := v.len; simp; omega)
  rw [h]
  have h1 : decide (((rows.map oD).length : Int) ≤ 100) = true := decide_eq_true (by have := v.len; simp; omega)
  have h2 : ((rows.map oD).all fun x => match x with | .tuple [.str a, .str b, .int n] => owB (a, b, n) | _ => false) = true := by
    rw [List.all_map]
    exact v.all
  rw [h1, h2]
  rfl
theorem S_nets {rows : List O} (v : VO rows) : G_nets [.d (.tuple (rows.map oD))] = .ok (.o (.m (mD (dueL rows)))) [none] := by
  have hn := S_nets_of rows (by have := v.len; omega) v.few
  simp [G_nets, g_nets, V_are v, S_demand_t, hn]
theorem X_nets {x : D} (h : G_are_owings [.d x] = .ok (.d (.bool false)) [none]) : G_nets [.d x] = .ex "BadArgument" "name" (.str "owings") [none] := by
  simp [G_nets, g_nets, h, S_demand_f]
theorem X_netted {x : D} (h : G_are_owings [.d x] = .ok (.d (.bool false)) [none]) : G_netted [.d x] = .ex "BadArgument" "name" (.str "owings") [none] := by
  simp [G_netted, g_netted, h, S_demand_f]
end Kk33
set_option Elab.async false
set_option linter.all false
set_option maxRecDepth 100000
set_option maxHeartbeats 1000000
namespace Kk33
open PySem PySem.Spec PyProof.Rows L2 DL
/-! netted -/
def mV (N : List Str) (v : Str → Int) : List (D × D) := mD (N.map fun z => (z, v z))
theorem keys_mV (N : List Str) (v : Str → Int) : keysI (N.map fun z => (z, v z)) = N := by
  unfold keysI
  rw [List.map_map]
  exact List.map_id _
theorem valI_mV {N : List Str} {v : Str → Int} {g : Str} (h : g ∈ N) : valI (N.map fun z => (z, v z)) g = some (v g) := by
  induction N with
  | nil => cases h
  | cons z N ih =>
    unfold valI at *
    rw [List.map_cons, List.find?_cons]
    by_cases e : z = g
    · simp [e]
    · have h1 : decide (z = g) = false := by simp [e]
      rw [h1]
      exact ih ((List.mem_cons.mp h).resolve_left fun q => e q.symm)
theorem valD_mV {N : List Str} {v : Str → Int} {g : Str} (h : g ∈ N) : valD (mV N v) (.inr g) = some (.int (v g)) := by
  unfold mV
  rw [valD_mD, valI_mV h]
  rfl
theorem putD_mV {N : List Str} {v : Str → Int} {g : Str} (h : g ∈ N) (n : Int) : putD (mV N v) (.inr g) (.int n) = mV N (updV v g n) := by
  unfold mV
  rw [putD_mD]
  congr 1
  unfold putI
  rw [if_pos (List.any_eq_true.mpr ⟨(g, v g), List.mem_map.mpr ⟨g, h, rfl⟩, decide_eq_true rfl⟩), List.map_map]
  refine List.map_congr_left fun z _ => ?_
  by_cases e : z = g
  · simp [e, updV]
  · simp [e, updV]
theorem mV_small {N : List Str} {v : Str → Int} (h : N.length ≤ 1000) : (mV N v).length < sizeLine := mD_small (by simpa using h)
theorem srt_srt (rows : List O) : sortS (nm rows) = nm rows :=
  List.Perm.eq_of_pairwise (le := fun a b => leS a b = true) (fun a b _ _ x y => leS_anti x y) (List.pairwise_mergeSort leS_trans leS_total _) (pw_nm rows) (List.mergeSort_perm _ _)
theorem sortedK_mV {rows : List O} {v : Str → Int} (h : (nm rows).length < 64) : cSortedK (.dict (mV (nm rows) v)) = some (.l ((nm rows).map .str)) := by
  unfold mV
  rw [sortedK_mD (by simpa using h), keys_mV, srt_srt]
theorem dMin2_ii (a b : Int) : dMin2 (.int a) (.int b) = some (.int (min a b)) := rfl
noncomputable abbrev gIn : SS → DL.R Fl := gSeq (gAsg 5 (gOp dMin2 (gUn dNeg (gDIx 1 (gVar 3))) (gDIx 1 (gVar 4)))) (gIf (gT (gOp dGt (gVar 5) (gC (.int 0)))) (gSeq (gApO 2 (gTup (gCons (gVar 3) (gCons (gVar 4) (gCons (gVar 5) (gNil)))))) (gSeq (gSetK 1 (gOp dAdd (gDIx 1 (gVar 3)) (gVar 5)) (gVar 3)) (gSetK 1 (gOp dSub (gDIx 1 (gVar 4)) (gVar 5)) (gVar 4)))) (gSkip))
theorem in_no {N : List Str} {v : Str → Int} {g t : Str} {found : List O} {x0 u5 : Option SV} (hg : g ∈ N) (ht : t ∈ N) (hp : ¬ 0 < part v g t) :
    gIn [x0, some (.o (.m (mV N v))), some (.o (.l (found.map oD))), some (.d (.str g)), some (.d (.str t)), u5] = .ok .nx [x0, some (.o (.m (mV N v))), some (.o (.l (found.map oD))), some (.d (.str g)), some (.d (.str t)), some (.d (.int (part v g t)))] := by
  have e : min (-(v g)) (v t) = part v g t := rfl
  unfold gIn
  generalize part v g t = p at *
  simp [valD_mV hg, valD_mV ht, dMin2_ii, e, hp]
theorem in_yes {N : List Str} {v : Str → Int} {g t : Str} {found : List O} {x0 u5 : Option SV} (hg : g ∈ N) (ht : t ∈ N) (hN : N.length ≤ 1000) (hf : found.length ≤ 100000) (hp : 0 < part v g t) :
    gIn [x0, some (.o (.m (mV N v))), some (.o (.l (found.map oD))), some (.d (.str g)), some (.d (.str t)), u5] = .ok .nx [x0, some (.o (.m (mV N (moved v g t)))), some (.o (.l ((found ++ [(g, t, part v g t)]).map oD))), some (.d (.str g)), some (.d (.str t)), some (.d (.int (part v g t)))] := by
  have e : min (-(v g)) (v t) = part v g t := rfl
  have hsz : (found.map oD).length < sizeLine := by
    rw [List.length_map, sizeLine_eq]
    omega
  have s1 := mV_small (v := v) hN
  unfold gIn moved
  generalize part v g t = p at *
  have s2 := mV_small (v := updV v g (v g + p)) hN
  simp only [List.length_map] at hsz
  simp [valD_mV hg, valD_mV ht, dMin2_ii, e, hp, hsz, s1, s2, putD_mV hg, putD_mV ht, oD]
noncomputable abbrev gOut : SS → DL.R Fl := gFor (gItL (gD (gUnN cSortedK (gOwn 1)))) (fName 4) gIn
theorem out_step {rows : List O} {T : List O} {i : Nat} {g : Str} {v : Str → Int} {found : List O} {x0 u4 u5 : Option SV} (hN : (nm rows).length < 64) (hg : (nm rows)[i]? = some g) (m : Mid (nm rows) T i 0 g v found) (hf : found.length ≤ 64 * i) :
    ∃ v' found' u4' u5', Mid (nm rows) T i (nm rows).length g v' found' ∧ found'.length ≤ 64 * (i + 1) ∧ gOut [x0, some (.o (.m (mV (nm rows) v))), some (.o (.l (found.map oD))), some (.d (.str g)), u4, u5]
      = .ok .nx [x0, some (.o (.m (mV (nm rows) v'))), some (.o (.l (found'.map oD))), some (.d (.str g)), u4', u5'] := by
  have hi : i < 64 := by
    have := (List.getElem?_eq_some_iff.mp hg).1
    omega
  obtain ⟨fl, δ', e, h1⟩ := for_run (B := fun _ => False) (T := fun _ _ => False) (tg := fName 4) (gb := gIn) ((nm rows).map PyData.str)
    (fun j δ => ∃ (v' : Str → Int) (found' : List O) (u4 u5 : Option SV), Mid (nm rows) T i j g v' found' ∧ found'.length ≤ 64 * i + j ∧ δ = ([x0, some (.o (.m (mV (nm rows) v'))), some (.o (.l (found'.map oD))), some (.d (.str g)), u4, u5] : SS))
    [x0, some (.o (.m (mV (nm rows) v))), some (.o (.l (found.map oD))), some (.d (.str g)), u4, u5] ⟨v, found, u4, u5, m, hf, rfl⟩
    (fun j d δ hd ⟨v', found', u4, u5, m', hf', e⟩ => by
      subst e
      rw [List.getElem?_map] at hd
      cases ht : (nm rows)[j]? with
      | none =>
        rw [ht] at hd
        cases hd
      | some t =>
        rw [ht] at hd
        cases hd
        have hj := (List.getElem?_eq_some_iff.mp ht).1
        have mg := List.mem_of_getElem? hg
        have mt := List.mem_of_getElem? ht
        by_cases hp : 0 < part v' g t
        · have hs := in_yes (found := found') (x0 := x0) (u5 := u5) mg mt (by omega) (by omega) hp
          exact ⟨_, rfl, .nx, _, hs, _, _, some (.d (.str t)), some (.d (.int (part v' g t))), (visit_yes (nd_nm rows) m' hg ht hp).1, by simp; omega, rfl⟩
        · have hs := in_no (found := found') (x0 := x0) (u5 := u5) mg mt hp
          exact ⟨_, rfl, .nx, _, hs, _, _, some (.d (.str t)), some (.d (.int (part v' g t))), visit_no m' ht hp, by omega, rfl⟩)
  rw [List.length_map] at h1
  have hit : gItL (gD (gUnN cSortedK (gOwn 1))) [x0, some (.o (.m (mV (nm rows) v))), some (.o (.l (found.map oD))), some (.d (.str g)), u4, u5] = .ok ((nm rows).map .str) [x0, some (.o (.m (mV (nm rows) v))), some (.o (.l (found.map oD))), some (.d (.str g)), u4, u5] := by
    simp [sortedK_mV hN]
  cases fl with
  | nx =>
    rcases h1 with ⟨v', found', u4', u5', m', hf', rfl⟩ | h1
    · refine ⟨v', found', u4', u5', m', by omega, ?_⟩
      unfold gOut
      rw [gFor_ap, hit, bind_ok]
      exact e
    · exact h1.elim
  | bk => exact h1.elim
  | ct => exact h1.elim
  | rt v => exact h1.elim
theorem few_nm {rows : List O} (v : VO rows) : (nm rows).length < 64 := by
  unfold nm
  rw [srt_len]
  exact v.few
theorem S_netted {rows : List O} (v : VO rows) : G_netted [.d (.tuple (rows.map oD))] = .ok (.d (.tuple ((toldL rows).map oD))) [none] := by
  have hN := few_nm v
  have hn := S_nets_of rows (by have := v.len; omega) v.few
  obtain ⟨fl, δ', e, h1⟩ := for_run (B := fun _ => False) (T := fun _ _ => False) (tg := fName 3) (gb := gOut) ((nm rows).map PyData.str)
    (fun i δ => ∃ (w : Str → Int) (found : List O) (u3 u4 u5 : Option SV), (∀ z ∈ (nm rows).take i, 0 ≤ w z) ∧ sumP (giveL w (nm rows)) = sumP (getL w (nm rows)) ∧ found ++ tp (giveL w (nm rows)) (getL w (nm rows)) = toldL rows ∧ found.length ≤ 64 * i ∧ δ = ([some (.d (.tuple (rows.map oD))), some (.o (.m (mV (nm rows) w))), some (.o (.l (found.map oD))), u3, u4, u5] : SS))
    [some (.d (.tuple (rows.map oD))), some (.o (.m (mV (nm rows) (net rows)))), some (.o (.l [])), none, none, none] ⟨net rows, [], none, none, none, by simp, sums_eq rows, rfl, by simp, rfl⟩
    (fun i d δ hd ⟨w, found, u3, u4, u5, h1, h2, h3, h4, e⟩ => by
      subst e
      rw [List.getElem?_map] at hd
      cases hg : (nm rows)[i]? with
      | none =>
        rw [hg] at hd
        cases hd
      | some g =>
        rw [hg] at hd
        cases hd
        obtain ⟨w', found', u4', u5', m', hf', hs⟩ := out_step (x0 := some (.d (.tuple (rows.map oD)))) (u4 := u4) (u5 := u5) hN hg ⟨h1, .inr (by simp), h2, h3⟩ h4
        exact ⟨_, rfl, .nx, _, hs, w', found', some (.d (.str g)), u4', u5', mid_end m' hg, m'.c, m'.d, hf', rfl⟩)
  rw [List.length_map] at h1
  have hit : gItL (gD (gUnN cSortedK (gOwn 1))) [some (.d (.tuple (rows.map oD))), some (.o (.m (mV (nm rows) (net rows)))), some (.o (.l [])), none, none, none] = .ok ((nm rows).map .str) [some (.d (.tuple (rows.map oD))), some (.o (.m (mV (nm rows) (net rows)))), some (.o (.l [])), none, none, none] := by
    simp [sortedK_mV hN]
  cases fl with
  | nx =>
    rcases h1 with ⟨w, found, u3, u4, u5, h1, h2, h3, h4, rfl⟩ | h1
    · rw [List.take_length] at h1
      rw [give_nil h1, tp, List.append_nil] at h3
      rw [h3] at e
      show toRF 1 (g_netted _) = _
      unfold g_netted
      rw [gSeq_ap, show gDrop (gOfR (gCallR 2 G_demand (gAgD (gOfR (gCallR 1 G_are_owings (gAgD (gVar 0) (gAg0)))) (gAgD (gC (.str "owings")) (gAg0))))) ([SV.d (.tuple (rows.map oD))].map some ++ List.replicate 5 none : SS) = .ok .nx [some (.d (.tuple (rows.map oD))), none, none, none, none, none] by simp [V_are v, S_demand_t]]
      dsimp only
      rw [gSeq_ap, show gAsgO 1 (gOfRO (gCallR 1 G_nets_of (gAgD (gVar 0) (gAg0)))) [some (.d (.tuple (rows.map oD))), none, none, none, none, none] = .ok .nx [some (.d (.tuple (rows.map oD))), some (.o (.m (mV (nm rows) (net rows)))), none, none, none, none] by simp [hn, mV, dueL]]
      dsimp only
      rw [gSeq_ap, show gAsgO 2 (gLst gNil) [some (.d (.tuple (rows.map oD))), some (.o (.m (mV (nm rows) (net rows)))), none, none, none, none] = .ok .nx [some (.d (.tuple (rows.map oD))), some (.o (.m (mV (nm rows) (net rows)))), some (.o (.l [])), none, none, none] by simp]
      dsimp only
      rw [gSeq_ap, gFor_ap, hit, bind_ok]
      unfold gOut gIn at e
      rw [e]
      simp
    · exact h1.elim
  | bk => exact h1.elim
  | ct => exact h1.elim
  | rt v => exact h1.elim
end Kk33
set_option Elab.async false
set_option linter.all false
set_option maxRecDepth 100000
set_option maxHeartbeats 1000000
namespace Kk33
open PySem PySem.Spec PyProof.Rows L2 DL
/-! by the rule -/
theorem rng_at {n i : Nat} (h : i < n) : (rangeD 0 n)[i]? = some (.int (i : Nat)) := by
  unfold rangeD
  rw [List.getElem?_map, List.getElem?_range h]
  simp
theorem rng_len (n : Nat) : (rangeD 0 n).length = n := by simp [rangeD]
theorem range_to {g : SS → DL.R D} {δ δ' : SS} {m : Nat} (h : g δ = .ok (.int (m : Nat)) δ') (hm : m ≤ 1000000) : gRange1 g δ = .ok (rangeD 0 m) δ' := by
  rw [gRange1_ap, h, bind_ok]
  show (if -(2 ^ 62) ≤ (m : Int) ∧ (m : Int) < 2 ^ 62 then DL.R.ok (rangeD 0 ((m : Int)).toNat) δ' else .bad) = _
  have hr : -(2 ^ 62) ≤ (m : Int) ∧ (m : Int) < 2 ^ 62 := by
    generalize hB : (2 : Int) ^ 62 = B
    have hB' : (4000000 : Int) ≤ B := by rw [← hB]; decide
    omega
  rw [if_pos hr, Int.toNat_natCast]
theorem six1' (n : Nat) : HT.sIx n 0 (some 1) = min 1 n := by
  unfold HT.sIx
  simp
  try omega
theorem sixn (n : Nat) : HT.sIx n n none = n := rfl
theorem cutD_tail (xs : List D) : DL.cutD xs (some 1) none = xs.tail := by
  unfold DL.cutD
  rw [six1', sixn]
  cases xs with
  | nil => rfl
  | cons x xs =>
    rw [show min 1 (x :: xs).length = 1 by simp, List.drop_one, List.tail_cons, List.take_of_length_le (by simp)]
def lD (p : Str × Int) : D := .list [.str p.1, .int p.2]
theorem lD_0 (p : Str × Int) : dIx (lD p) (.int 0) = some (.str p.1) := rfl
theorem lD_1 (p : Str × Int) : dIx (lD p) (.int 1) = some (.int p.2) := rfl
theorem ix_head (x : D) (xs : List D) : dIx (.list (x :: xs)) (.int 0) = some x := dIx_l (j := 0) rfl
theorem plain_lD (p : Str × Int) : (lD p).plain = true := by simp [lD, PyData.plain, PyData.plainAll]
theorem plainAll_lD : ∀ l : List (Str × Int), PyData.plainAll (l.map lD) = true
  | [] => rfl
  | p :: l => by
    show (PyData.plain (lD p) && PyData.plainAll (l.map lD)) = true
    rw [plain_lD, plainAll_lD l]
    rfl
theorem depth_lD (p : Str × Int) : (lD p).depth = 1 := by simp [lD, PyData.depth, PyData.depthAll]
theorem depthAll_lD : ∀ l : List (Str × Int), PyData.depthAll (l.map lD) ≤ 1
  | [] => by simp [PyData.depthAll]
  | p :: l => by
    have h := depthAll_lD l
    have h2 := depth_lD p
    simp [PyData.depthAll, h2]
    omega
theorem eq_nil (l : List (Str × Int)) : dEq (.list (l.map lD)) (.list []) = some (.bool (l.isEmpty)) := by
  have h1 : PyData.plain (.list (l.map lD)) = true := plainAll_lD l
  have h2 : PyData.depth (.list (l.map lD)) ≤ 64 := by
    have := depthAll_lD l
    simp [PyData.depth]
    omega
  show (if eqB _ _ = true then some (PyData.bool (PyData.eqv _ _)) else none) = _
  rw [if_pos (by unfold eqB; rw [h1, decide_eq_true h2]; rfl)]
  cases l with
  | nil => rfl
  | cons p l => simp [PyData.eqv, PyData.eqvAll]
theorem rep_if (c : Bool) (x : D) : cRep (.list [x]) (.int (if c = true then 1 else 0)) = some (.l (if c = true then [x] else [])) := by
  unfold cRep
  dsimp only
  cases c
  · rw [if_pos ⟨by decide, by decide, small_line (by simp)⟩]
    rfl
  · rw [if_pos ⟨by decide, by decide, small_line (by simp)⟩]
    rfl
theorem cCat_l (xs ys : List D) (h : xs.length + ys.length ≤ 1000000) : cCat (.list xs) (.list ys) = some (.l (xs ++ ys)) := by
  show (if xs.length + ys.length ≤ sizeLine then some (OC.l (xs ++ ys)) else none) = _
  rw [if_pos (small_line h)]
theorem dInt_b (c : Bool) : dInt (.bool c) = some (.int (if c = true then 1 else 0)) := rfl
/-- one list behind a turn -/
def cut (p : Str × Int) (l : List (Str × Int)) (n : Int) : List (Str × Int) := (if n < p.2 then [(p.1, p.2 - n)] else []) ++ l
noncomputable abbrev gCut (i : Nat) : SS → DL.R D := gD (gOpN cCat (gD (gOpN cRep (gD (gLst (gCons (gD (gLst (gCons (gOp dIx (gOp dIx (gVar i) (gC (.int 0))) (gC (.int 0))) (gCons (gOp dSub (gOp dIx (gOp dIx (gVar i) (gC (.int 0))) (gC (.int 1))) (gVar 5)) (gNil))))) (gNil)))) (gUn dInt (gOp dGt (gOp dIx (gOp dIx (gVar i) (gC (.int 0))) (gC (.int 1))) (gVar 5))))) (gD (gSl cSlL (gVar i) (gPart (gC (.int 1))) (gPartN))))
theorem cut_ok {δ : SS} {i : Nat} {p : Str × Int} {l : List (Str × Int)} {n : Int} (h1 : δ[i]? = some (some (.d (.list ((p :: l).map lD))))) (h5 : δ[5]? = some (some (.d (.int n)))) (hl : l.length ≤ 1000) : gCut i δ = .ok (.list ((cut p l n).map lD)) δ := by
  have v1 := var_at h1
  have v5 := var_at h5
  have hc := cCat_l (if n < p.2 then [.list [.str p.1, .int (p.2 - n)]] else []) (l.map lD) (by split <;> simp <;> omega)
  have hr := rep_if (decide (n < p.2)) (.list [.str p.1, .int (p.2 - n)])
  simp only [decide_eq_true_eq] at hr
  have hs : cSlL (.list ((p :: l).map lD)) (some 1) none = some (.l (l.map lD)) := by
    show some (OC.l (DL.cutD ((p :: l).map lD) (some 1) none)) = _
    rw [cutD_tail]
    rfl
  unfold gCut
  rw [List.map_cons] at v1 hs
  simp only [gD_ap, gOpN_ap, gLst_ap, gCons_ap, gNil_ap, gOp_ap, v1, v5, gC_ap, bind_ok, ix_head, opt_some, lD_0, lD_1, dSub_ii, fitL_ap, List.length_cons, List.length_nil, line_1, line_2, Nat.zero_add, Nat.reduceAdd, if_true, OC.toD, gUn_ap, dGt_ii, dInt_b, decide_eq_true_eq, hr, gSl_ap, gPart_ap, gPartN_ap, hs, hc]
  unfold cut
  rw [List.map_append]
  split <;> rfl
theorem tp_cut (p q : Str × Int) (gs ts : List (Str × Int)) : tp (p :: gs) (q :: ts) = (p.1, q.1, min p.2 q.2) :: tp (cut p gs (min p.2 q.2)) (cut q ts (min p.2 q.2)) := by
  obtain ⟨a, x⟩ := p
  obtain ⟨b, y⟩ := q
  rw [tp]
  unfold cut
  dsimp only
  by_cases h1 : x < y
  · rw [if_pos h1, if_neg (by omega), if_pos (by omega), show min x y = x by omega]
    rfl
  · by_cases h2 : x = y
    · rw [if_neg h1, if_pos h2, if_neg (by omega), if_neg (by omega)]
      rfl
    · rw [if_neg h1, if_neg h2, if_pos (by omega), if_neg (by omega), show min x y = y by omega]
      rfl
theorem cut_pos {p : Str × Int} {l : List (Str × Int)} {n : Int} (h : posP l) : posP (cut p l n) := fun r hr => by
  unfold cut at hr
  rcases List.mem_append.mp hr with hr | hr
  · split at hr
    · rw [List.mem_singleton] at hr
      rw [hr]
      dsimp only
      omega
    · cases hr
  · exact h r hr
theorem cut_sum {p : Str × Int} {l : List (Str × Int)} {n : Int} (h : n ≤ p.2) : sumP (cut p l n) = sumP (p :: l) - n := by
  unfold cut
  rw [sumP_cons]
  split
  · rw [List.singleton_append, sumP_cons]
    dsimp only
    omega
  · rw [List.nil_append]
    omega
theorem cut_len (p q : Str × Int) (gs ts : List (Str × Int)) : (cut p gs (min p.2 q.2)).length + (cut q ts (min p.2 q.2)).length + 1 ≤ (p :: gs).length + (q :: ts).length := by
  unfold cut
  simp only [List.length_append, List.length_cons]
  split <;> split <;> simp only [List.length_cons, List.length_nil] <;> omega
noncomputable abbrev gTurn : SS → DL.R Fl := gSeq (gIf (gT (gOp dEq (gVar 1) (gD (gLst (gNil))))) (gBrk) (gSkip)) (gSeq (gAsg 5 (gOp dMin2 (gOp dIx (gOp dIx (gVar 1) (gC (.int 0))) (gC (.int 1))) (gOp dIx (gOp dIx (gVar 2) (gC (.int 0))) (gC (.int 1))))) (gSeq (gApO 3 (gTup (gCons (gOp dIx (gOp dIx (gVar 1) (gC (.int 0))) (gC (.int 0))) (gCons (gOp dIx (gOp dIx (gVar 2) (gC (.int 0))) (gC (.int 0))) (gCons (gVar 5) (gNil)))))) (gSeq (gAsg 1 (gCut 1)) (gAsg 2 (gCut 2)))))
theorem turn_stop {x0 x2 x3 x4 x5 x6 x7 : Option SV} : gTurn [x0, some (.d (.list [])), x2, x3, x4, x5, x6, x7] = .ok .bk [x0, some (.d (.list [])), x2, x3, x4, x5, x6, x7] := by
  have h := eq_nil []
  have h' : dEq (.list []) (.list []) = some (.bool true) := h
  unfold gTurn
  rw [gSeq_ap, gIf_ap, show gT (gOp dEq (gVar 1) (gD (gLst (gNil)))) [x0, some (.d (.list [])), x2, x3, x4, x5, x6, x7] = .ok true [x0, some (.d (.list [])), x2, x3, x4, x5, x6, x7] by simp [h']]
  rfl
theorem turn_go {x0 x4 x5 x6 x7 : Option SV} {p q : Str × Int} {gs ts : List (Str × Int)} {found : List O} (hg : gs.length ≤ 1000) (ht : ts.length ≤ 1000) (hf : found.length ≤ 100000) :
    gTurn [x0, some (.d (.list ((p :: gs).map lD))), some (.d (.list ((q :: ts).map lD))), some (.o (.l (found.map oD))), x4, x5, x6, x7]
     = .ok .nx [x0, some (.d (.list ((cut p gs (min p.2 q.2)).map lD))), some (.d (.list ((cut q ts (min p.2 q.2)).map lD))), some (.o (.l ((found ++ [(p.1, q.1, min p.2 q.2)]).map oD))), x4, some (.d (.int (min p.2 q.2))), x6, x7] := by
  have h := eq_nil (p :: gs)
  have h' : dEq (.list ((p :: gs).map lD)) (.list []) = some (.bool false) := h
  have hsz : found.length < sizeLine := by
    rw [sizeLine_eq]
    omega
  unfold gTurn
  rw [gSeq_ap, gIf_ap, show gT (gOp dEq (gVar 1) (gD (gLst (gNil)))) [x0, some (.d (.list ((p :: gs).map lD))), some (.d (.list ((q :: ts).map lD))), some (.o (.l (found.map oD))), x4, x5, x6, x7] = .ok false [x0, some (.d (.list ((p :: gs).map lD))), some (.d (.list ((q :: ts).map lD))), some (.o (.l (found.map oD))), x4, x5, x6, x7] by
    rw [gT_ap, gOp_ap, show gVar 1 [x0, some (.d (.list ((p :: gs).map lD))), some (.d (.list ((q :: ts).map lD))), some (.o (.l (found.map oD))), x4, x5, x6, x7] = .ok (.list ((p :: gs).map lD)) [x0, some (.d (.list ((p :: gs).map lD))), some (.d (.list ((q :: ts).map lD))), some (.o (.l (found.map oD))), x4, x5, x6, x7] from rfl, bind_ok,
      show gD (gLst gNil) [x0, some (.d (.list ((p :: gs).map lD))), some (.d (.list ((q :: ts).map lD))), some (.o (.l (found.map oD))), x4, x5, x6, x7] = .ok (.list []) [x0, some (.d (.list ((p :: gs).map lD))), some (.d (.list ((q :: ts).map lD))), some (.o (.l (found.map oD))), x4, x5, x6, x7] by simp, bind_ok, h']
    rfl]
  simp only [bind_ok, Bool.false_eq_true, if_false, gSkip_ap]
  rw [gSeq_ap, show gAsg 5 (gOp dMin2 (gOp dIx (gOp dIx (gVar 1) (gC (.int 0))) (gC (.int 1))) (gOp dIx (gOp dIx (gVar 2) (gC (.int 0))) (gC (.int 1)))) [x0, some (.d (.list ((p :: gs).map lD))), some (.d (.list ((q :: ts).map lD))), some (.o (.l (found.map oD))), x4, x5, x6, x7]
      = .ok .nx [x0, some (.d (.list ((p :: gs).map lD))), some (.d (.list ((q :: ts).map lD))), some (.o (.l (found.map oD))), x4, some (.d (.int (min p.2 q.2))), x6, x7] by simp [ix_head, lD_1, dMin2_ii]]
  dsimp only
  rw [gSeq_ap, show gApO 3 (gTup (gCons (gOp dIx (gOp dIx (gVar 1) (gC (.int 0))) (gC (.int 0))) (gCons (gOp dIx (gOp dIx (gVar 2) (gC (.int 0))) (gC (.int 0))) (gCons (gVar 5) (gNil))))) [x0, some (.d (.list ((p :: gs).map lD))), some (.d (.list ((q :: ts).map lD))), some (.o (.l (found.map oD))), x4, some (.d (.int (min p.2 q.2))), x6, x7]
      = .ok .nx [x0, some (.d (.list ((p :: gs).map lD))), some (.d (.list ((q :: ts).map lD))), some (.o (.l ((found ++ [(p.1, q.1, min p.2 q.2)]).map oD))), x4, some (.d (.int (min p.2 q.2))), x6, x7] by simp [ix_head, lD_0, hsz, oD]]
  dsimp only
  rw [gSeq_ap, gAsg_ap, cut_ok (p := p) (l := gs) (n := min p.2 q.2) rfl rfl hg, bind_ok]
  simp only [List.set_cons_zero, List.set_cons_succ]
  rw [gAsg_ap, cut_ok (p := q) (l := ts) (n := min p.2 q.2) rfl rfl ht, bind_ok]
  simp only [List.set_cons_zero, List.set_cons_succ]
theorem give_due (v : Str → Int) (N : List Str) : (((N.map fun z => (z, v z)).filter fun p => decide (p.2 < 0)).map fun p => (p.1, -p.2)) = giveL v N := by
  induction N with
  | nil => rfl
  | cons z N ih =>
    unfold giveL at *
    rw [List.map_cons, List.filter_cons, List.filterMap_cons]
    by_cases h : v z < 0
    · rw [if_pos (by simpa using h), if_pos h, List.map_cons, ih]
    · rw [if_neg (by simpa using h), if_neg h, ih]
theorem get_due (v : Str → Int) (N : List Str) : ((N.map fun z => (z, v z)).filter fun p => decide (0 < p.2)) = getL v N := by
  induction N with
  | nil => rfl
  | cons z N ih =>
    unfold getL at *
    rw [List.map_cons, List.filter_cons, List.filterMap_cons]
    by_cases h : 0 < v z
    · rw [if_pos (by simpa using h), if_pos h, ih]
    · rw [if_neg (by simpa using h), if_neg h, ih]
theorem lens (v : Str → Int) (N : List Str) : (giveL v N).length + (getL v N).length ≤ N.length := by
  induction N with
  | nil => exact Nat.le_refl _
  | cons z N ih =>
    unfold giveL getL at *
    rw [List.filterMap_cons, List.filterMap_cons]
    by_cases h : v z < 0
    · rw [if_pos h, if_neg (by omega)]
      simp only [List.length_cons]
      omega
    · by_cases h2 : 0 < v z
      · rw [if_neg h, if_pos h2]
        simp only [List.length_cons]
        omega
      · rw [if_neg h, if_neg h2]
        simp only [List.length_cons]
        omega
theorem rule_rng (xs : List D) (x1 x2 x3 x4 x5 x6 x7 : Option SV) (h : xs.length ≤ 1000) : gRange1 (gOp dMul (gC (.int 2)) (gUn dLen (gVar 0))) [some (.d (.list xs)), x1, x2, x3, x4, x5, x6, x7] = .ok (rangeD 0 (2 * xs.length)) [some (.d (.list xs)), x1, x2, x3, x4, x5, x6, x7] := by
  refine range_to ?_ (by omega)
  rw [gOp_ap, gC_ap, bind_ok, gUn_ap, show gVar 0 [some (.d (.list xs)), x1, x2, x3, x4, x5, x6, x7] = .ok (.list xs) [some (.d (.list xs)), x1, x2, x3, x4, x5, x6, x7] from rfl, bind_ok, dLen_l, opt_some, bind_ok, dMul_ii (.inl ⟨by decide, by decide⟩), opt_some]
  congr 2
theorem rule_glue {x : D} {d1 d2 d3 : SS} {y : D}
    (h1 : gPar3O 1 2 3 (gD (gLc [6, 7] (gItL (gVar 0)) (fTup 2 (fCons (fName 6) (fCons (fName 7) (fNil)))) (gT (gOp dLt (gVar 7) (gC (.int 0)))) (gD (gLst (gCons (gVar 6) (gCons (gUn dNeg (gVar 7)) (gNil))))))) (gD (gLc [6, 7] (gItL (gVar 0)) (fTup 2 (fCons (fName 6) (fCons (fName 7) (fNil)))) (gT (gOp dGt (gVar 7) (gC (.int 0)))) (gD (gLst (gCons (gVar 6) (gCons (gVar 7) (gNil))))))) (gLst (gNil)) [some (.d x), none, none, none, none, none, none, none] = .ok .nx d1)
    (h2 : gFor (gRange1 (gOp dMul (gC (.int 2)) (gUn dLen (gVar 0)))) (fName 4) gTurn d1 = .ok .nx d2) (h3 : gFrz 3 (gRet (gUn dTuple (gVar 3))) d2 = .ok (.rt (.d y)) (some (.d x) :: d3)) : G__law_by_rule [.d x] = .ok (.d y) [none] := by
  show toRF 1 (g__law_by_rule [some (.d x), none, none, none, none, none, none, none]) = _
  unfold g__law_by_rule
  rw [gSeq_ap, h1]
  dsimp only
  rw [gSeq_ap, h2]
  dsimp only
  rw [h3]
  rfl
theorem S_by_rule (rows : List O) (hN : (nm rows).length < 64) : G__law_by_rule [.d (.list ((dueL rows).map pairD))] = .ok (.d (.tuple ((toldL rows).map oD))) [none] := by
  have hdl : (dueL rows).length = (nm rows).length := by simp [dueL]
  have hlen := lens (net rows) (nm rows)
  obtain ⟨fl, δ', e, h1⟩ := for_run (tg := fName 4) (gb := gTurn) (B := fun δ => ∃ (u2 u4 u5 : Option SV), δ = ([some (.d (.list ((dueL rows).map pairD))), some (.d (.list [])), u2, some (.o (.l ((toldL rows).map oD))), u4, u5, none, none] : SS)) (T := fun _ _ => False) (rangeD 0 (2 * (dueL rows).length))
    (fun j δ => ∃ (gs ts : List (Str × Int)) (found : List O) (u4 u5 : Option SV), posP gs ∧ posP ts ∧ sumP gs = sumP ts ∧ found ++ tp gs ts = toldL rows ∧ gs.length + ts.length + j ≤ (nm rows).length ∧ found.length ≤ j ∧ δ = ([some (.d (.list ((dueL rows).map pairD))), some (.d (.list (gs.map lD))), some (.d (.list (ts.map lD))), some (.o (.l (found.map oD))), u4, u5, none, none] : SS))
    [some (.d (.list ((dueL rows).map pairD))), some (.d (.list ((giveL (net rows) (nm rows)).map lD))), some (.d (.list ((getL (net rows) (nm rows)).map lD))), some (.o (.l [])), none, none, none, none] ⟨_, _, [], none, none, give_pos _ _, get_pos _ _, sums_eq rows, rfl, by omega, by simp, rfl⟩
    (fun j d δ hd ⟨gs, ts, found, u4, u5, h1, h2, h3, h4, h5, h6, e⟩ => by
      subst e
      have hj : j < 2 * (dueL rows).length := by
        have := (List.getElem?_eq_some_iff.mp hd).1
        rw [rng_len] at this
        exact this
      rw [rng_at hj] at hd
      cases hd
      cases gs with
      | nil =>
        have hs := turn_stop (x0 := some (.d (.list ((dueL rows).map pairD)))) (x2 := some (.d (.list (ts.map lD)))) (x3 := some (.o (.l (found.map oD)))) (x4 := some (.d (.int (j : Nat)))) (x5 := u5) (x6 := none) (x7 := none)
        rw [tp, List.append_nil] at h4
        rw [h4] at hs ⊢
        exact ⟨_, rfl, .bk, _, hs, some (.d (.list (ts.map lD))), some (.d (.int (j : Nat))), u5, rfl⟩
      | cons p gs =>
        cases ts with
        | nil =>
          have q1 := h1 p (by simp)
          have q2 := sumP_nonneg (pos_tail h1)
          rw [sumP_cons] at h3
          simp [sumP] at h3 q2
          omega
        | cons q ts =>
          simp only [List.length_cons] at h5
          have hs := turn_go (x0 := some (.d (.list ((dueL rows).map pairD)))) (x4 := some (.d (.int (j : Nat)))) (x5 := u5) (x6 := none) (x7 := none) (p := p) (q := q) (gs := gs) (ts := ts) (found := found) (by omega) (by omega) (by omega)
          have k1 := cut_len p q gs ts
          simp only [List.length_cons] at k1
          refine ⟨_, rfl, .nx, _, hs, cut p gs (min p.2 q.2), cut q ts (min p.2 q.2), _, some (.d (.int (j : Nat))), some (.d (.int (min p.2 q.2))), cut_pos (pos_tail h1), cut_pos (pos_tail h2), ?_, ?_, by omega, by simp; omega, rfl⟩
          · rw [cut_sum (by omega), cut_sum (by omega), h3]
          · rw [← h4, tp_cut, List.append_assoc]
            rfl)
  rw [rng_len] at h1
  have zg : gLc [6, 7] (gItL (gVar 0)) (fTup 2 (fCons (fName 6) (fCons (fName 7) (fNil)))) (gT (gOp dLt (gVar 7) (gC (.int 0)))) (gD (gLst (gCons (gVar 6) (gCons (gUn dNeg (gVar 7)) (gNil))))) [some (.d (.list ((dueL rows).map pairD))), none, none, none, none, none, none, none]
      = .ok (.l ((giveL (net rows) (nm rows)).map lD)) [some (.d (.list ((dueL rows).map pairD))), none, none, none, none, none, none, none] := by
    rw [← give_due, List.map_map]
    refine gLc_run pairD (fun p => decide (p.2 < 0)) _ (dueL rows) (by simp) (small_line (by omega)) fun p _ => ?_
    by_cases c : p.2 < 0 <;> simp [lcOne, pairD, c, lD]
  have zt : gLc [6, 7] (gItL (gVar 0)) (fTup 2 (fCons (fName 6) (fCons (fName 7) (fNil)))) (gT (gOp dGt (gVar 7) (gC (.int 0)))) (gD (gLst (gCons (gVar 6) (gCons (gVar 7) (gNil))))) [some (.d (.list ((dueL rows).map pairD))), none, none, none, none, none, none, none]
      = .ok (.l ((getL (net rows) (nm rows)).map lD)) [some (.d (.list ((dueL rows).map pairD))), none, none, none, none, none, none, none] := by
    rw [← get_due]
    refine gLc_run pairD (fun p => decide (0 < p.2)) lD (dueL rows) (by simp) (small_line (by omega)) fun p _ => ?_
    by_cases c : 0 < p.2 <;> simp [lcOne, pairD, c, lD]
  have hrg := rule_rng ((dueL rows).map pairD) (some (.d (.list ((giveL (net rows) (nm rows)).map lD)))) (some (.d (.list ((getL (net rows) (nm rows)).map lD)))) (some (.o (.l []))) none none none none (by rw [List.length_map]; omega)
  rw [List.length_map] at hrg
  have fin : ∃ u1 u2 u4 u5, δ' = ([some (.d (.list ((dueL rows).map pairD))), u1, u2, some (.o (.l ((toldL rows).map oD))), u4, u5, none, none] : SS) ∧ fl = .nx := by
    cases fl with
    | nx =>
      rcases h1 with ⟨gs, ts, found, u4, u5, h1, h2, h3, h4, h5, h6, rfl⟩ | ⟨u2, u4, u5, rfl⟩
      · have : gs = [] := List.length_eq_zero_iff.mp (by omega)
        subst this
        rw [tp, List.append_nil] at h4
        exact ⟨_, _, _, _, by rw [h4], rfl⟩
      · exact ⟨_, _, _, _, rfl, rfl⟩
    | bk => exact h1.elim
    | ct => exact h1.elim
    | rt v => exact h1.elim
  obtain ⟨u1, u2, u4, u5, rfl, rfl⟩ := fin
  have hfor : gFor (gRange1 (gOp dMul (gC (.int 2)) (gUn dLen (gVar 0)))) (fName 4) gTurn [some (.d (.list ((dueL rows).map pairD))), some (.d (.list ((giveL (net rows) (nm rows)).map lD))), some (.d (.list ((getL (net rows) (nm rows)).map lD))), some (.o (.l [])), none, none, none, none]
      = .ok .nx [some (.d (.list ((dueL rows).map pairD))), u1, u2, some (.o (.l ((toldL rows).map oD))), u4, u5, none, none] := by
    rw [gFor_ap, hrg, bind_ok]
    exact e
  have hpar : gPar3O 1 2 3 (gD (gLc [6, 7] (gItL (gVar 0)) (fTup 2 (fCons (fName 6) (fCons (fName 7) (fNil)))) (gT (gOp dLt (gVar 7) (gC (.int 0)))) (gD (gLst (gCons (gVar 6) (gCons (gUn dNeg (gVar 7)) (gNil))))))) (gD (gLc [6, 7] (gItL (gVar 0)) (fTup 2 (fCons (fName 6) (fCons (fName 7) (fNil)))) (gT (gOp dGt (gVar 7) (gC (.int 0)))) (gD (gLst (gCons (gVar 6) (gCons (gVar 7) (gNil))))))) (gLst (gNil)) [some (.d (.list ((dueL rows).map pairD))), none, none, none, none, none, none, none]
      = .ok .nx [some (.d (.list ((dueL rows).map pairD))), some (.d (.list ((giveL (net rows) (nm rows)).map lD))), some (.d (.list ((getL (net rows) (nm rows)).map lD))), some (.o (.l [])), none, none, none, none] := by
    rw [gPar3O_ap, gD_ap, zg, bind_ok, bind_ok, gD_ap, zt, bind_ok, bind_ok]
    simp only [gLst_ap, gNil_ap, bind_ok, fitL_ap, List.length_nil, line_0, if_true, opt_some, OC.toD, List.set_cons_zero, List.set_cons_succ]
  have hend : gFrz 3 (gRet (gUn dTuple (gVar 3))) [some (.d (.list ((dueL rows).map pairD))), u1, u2, some (.o (.l ((toldL rows).map oD))), u4, u5, none, none] = .ok (.rt (.d (.tuple ((toldL rows).map oD)))) [some (.d (.list ((dueL rows).map pairD))), u1, u2, some (.d (.list ((toldL rows).map oD))), u4, u5, none, none] := by simp
  exact rule_glue hpar hfor hend
end Kk33
set_option Elab.async false
set_option linter.all false
set_option maxRecDepth 100000
set_option maxHeartbeats 1000000
namespace Kk33
open PySem PySem.Spec PyProof.Rows L2 DL
noncomputable abbrev gR1 : SS → DL.R Fl := gParO 1 2 (gD (gSl cSlL (gD (gLst (gCons (gC (.str "a")) (gCons (gC (.str "b")) (gCons (gC (.str "c")) (gCons (gC (.str "dd")) (gCons (gC (.str "e")) (gCons (gC (.str "ff")) (gCons (gC (.str "g")) (gCons (gC (.str "h")) (gNil))))))))))) (gPartN) (gPart (gOp dAdd (gC (.int 2)) (gOfR (gCallR 2 G__law_roll (gAgS 0 (gAgD (gC (.int 7)) (gAg0))))))))) (gLst (gNil))
noncomputable abbrev gR2 : SS → DL.R Fl := gFor (gRange1 (gOfR (gCallR 2 G__law_pick (gAgS 0 (gAgD (gD (gLst (gCons (gC (.int 0)) (gCons (gC (.int 1)) (gCons (gC (.int 3)) (gCons (gC (.int 9)) (gCons (gC (.int 100)) (gNil)))))))) (gAg0)))))) (fName 3) (gSeq (gPar 4 5 (gOfR (gCallR 2 G__law_pick (gAgS 0 (gAgD (gVar 1) (gAg0))))) (gOfR (gCallR 2 G__law_pick (gAgS 0 (gAgD (gVar 1) (gAg0)))))) (gIf (gT (gOp dNe (gVar 4) (gVar 5))) (gApO 2 (gTup (gCons (gVar 4) (gCons (gVar 5) (gCons (gOp dAdd (gC (.int 1)) (gOfR (gCallR 2 G__law_pick (gAgS 0 (gAgD (gD (gLst (gCons (gC (.int 0)) (gCons (gC (.int 4)) (gCons (gC (.int 9)) (gCons (gOfR (gCallR 2 G__law_roll (gAgS 0 (gAgD (gC (.int 1000)) (gAg0))))) (gCons (gC (.int 99999)) (gNil)))))))) (gAg0)))))) (gNil)))))) (gSkip)))
noncomputable abbrev gR3 : SS → DL.R Fl := gFrz 2 (gPar 2 6 (gUn dTuple (gVar 2)) (gD (gOfRO (gCallR 1 G__law_own_nets (gAgD (gVar 2) (gAg0))))))
noncomputable abbrev gR4 : SS → DL.R Fl := gParF 7 8 (gOfRO (gCallKN 1 0 1 [0] G_nets gAg0 (gAgD (gVar 2) (gAg0)))) (gOfR (gCallKN 1 0 1 [0] G_netted gAg0 (gAgD (gVar 2) (gAg0))))
noncomputable abbrev gR5 : SS → DL.R Fl := gIf (gOr (gT (gOp dNe (gD (gLk 7 (gLc [11] (gKeysF 7) (fName 11) (gYes) (gTup (gCons (gVar 11) (gCons (gDIx 7 (gVar 11)) (gNil))))))) (gVar 6))) (gOr (gT (gOp dNe (gVar 8) (gOfR (gCallR 1 G__law_by_rule (gAgD (gVar 6) (gAg0)))))) (gOr (gT (gOp dNeM (gD (gOfRO (gCallR 1 G_nets (gAgD (gVar 2) (gAg0))))) (gOwn 7))) (gT (gOp dNe (gOfR (gCallR 1 G_netted (gAgD (gVar 2) (gAg0)))) (gVar 8)))))) (gRet (gC (.bool false))) (gSkip)
noncomputable abbrev gR6 : SS → DL.R Fl := gIf (gT (gOp dNe (gD (gLc [12] (gItL (gVar 6)) (fName 12) (gT (gOp dNe (gOp dIx (gVar 12) (gC (.int 1))) (gC (.int 0)))) (gVar 12))) (gD (gLc [12] (gItL (gD (gOfRO (gCallR 1 G__law_own_nets (gAgD (gVar 8) (gAg0)))))) (fName 12) (gYes) (gVar 12))))) (gRet (gC (.bool false))) (gSkip)
noncomputable abbrev gR7 : SS → DL.R Fl := gAsg 9 (gUn dSum (gD (gLc [13, 14, 15] (gItT (gVar 8)) (fTup 3 (fCons (fName 13) (fCons (fName 14) (fCons (fName 15) (fNil))))) (gYes) (gVar 15))))
noncomputable abbrev gR8 : SS → DL.R Fl := gIf (gOr (gT (gOp dNe (gVar 9) (gUn dSum (gD (gLc [11, 16] (gItL (gVar 6)) (fTup 2 (fCons (fName 11) (fCons (fName 16) (fNil)))) (gT (gOp dGt (gVar 16) (gC (.int 0)))) (gVar 16)))))) (gAnd (gT (gOp dNe (gVar 8) (gTup (gNil)))) (gT (gOp dGe (gUn dLen (gVar 8)) (gUn dLen (gD (gLc [11, 16] (gItL (gVar 6)) (fTup 2 (fCons (fName 11) (fCons (fName 16) (fNil)))) (gT (gOp dNe (gVar 16) (gC (.int 0)))) (gC (.int 1))))))))) (gRet (gC (.bool false))) (gSkip)
noncomputable abbrev gR9 : SS → DL.R Fl := gSetK 7 (gC (.int 1)) (gC (.str "zz"))
noncomputable abbrev gR10 : SS → DL.R Fl := gAsg 10 (gOfR (gCallR 2 G__law_pick (gAgS 0 (gAgD (gD (gLst (gCons (gC .none) (gCons (gD (gUnN cList (gVar 2))) (gCons (gOp dAdd (gVar 2) (gTup (gCons (gTup (gCons (gC (.str "a")) (gCons (gC (.str "a")) (gCons (gC (.int 1)) (gNil))))) (gNil)))) (gCons (gOp dAdd (gVar 2) (gTup (gCons (gTup (gCons (gC (.str "a")) (gCons (gC (.str "b")) (gNil)))) (gNil)))) (gCons (gTup (gCons (gTup (gCons (gC (.str "a")) (gCons (gC (.str "b")) (gCons (gC (.int 0)) (gNil))))) (gNil))) (gCons (gTup (gCons (gTup (gCons (gC (.str "A")) (gCons (gC (.str "b")) (gCons (gC (.int 1)) (gNil))))) (gNil))) (gCons (gTup (gCons (gTup (gCons (gC (.str "a")) (gCons (gC (.str "b")) (gCons (gC (.int 100001)) (gNil))))) (gNil))) (gCons (gOp dRepT (gTup (gCons (gTup (gCons (gC (.str "a")) (gCons (gC (.str "b")) (gCons (gC (.int 1)) (gNil))))) (gNil))) (gC (.int 101))) (gNil))))))))))) (gAg0)))))
noncomputable abbrev gR11 : SS → DL.R Fl := gRet (gAndV (gOp dNeM (gD (gOfRO (gCallR 1 G_nets (gAgD (gVar 2) (gAg0))))) (gOwn 7)) (gOp dEq (gD (gLst (gCons (gRef "BadArgument" "name" (gD (gOfRO (gCallR 1 G_nets (gAgD (gVar 10) (gAg0)))))) (gCons (gRef "BadArgument" "name" (gOfR (gCallR 1 G_netted (gAgD (gVar 10) (gAg0))))) (gNil))))) (gD (gOpN cRep (gD (gLst (gCons (gC (.str "owings")) (gNil)))) (gC (.int 2))))))
theorem glue_gR {d0 d1 d2 d3 d4 d5 d6 d7 d8 d9 d10 : SS} {r : DL.R Fl}
    (h1 : gR1 d0 = .ok .nx d1)
    (h2 : gR2 d1 = .ok .nx d2)
    (h3 : gR3 d2 = .ok .nx d3)
    (h4 : gR4 d3 = .ok .nx d4)
    (h5 : gR5 d4 = .ok .nx d5)
    (h6 : gR6 d5 = .ok .nx d6)
    (h7 : gR7 d6 = .ok .nx d7)
    (h8 : gR8 d7 = .ok .nx d8)
    (h9 : gR9 d8 = .ok .nx d9)
    (h10 : gR10 d9 = .ok .nx d10)
    (h11 : gR11 d10 = r) : g__law_right d0 = r := by
  rw [show g__law_right d0 = (gSeq gR1 (gSeq gR2 (gSeq gR3 (gSeq gR4 (gSeq gR5 (gSeq gR6 (gSeq gR7 (gSeq gR8 (gSeq gR9 (gSeq gR10 (gR11))))))))))) d0 from rfl]
  rw [gSeq_ap, h1]
  dsimp only
  rw [gSeq_ap, h2]
  dsimp only
  rw [gSeq_ap, h3]
  dsimp only
  rw [gSeq_ap, h4]
  dsimp only
  rw [gSeq_ap, h5]
  dsimp only
  rw [gSeq_ap, h6]
  dsimp only
  rw [gSeq_ap, h7]
  dsimp only
  rw [gSeq_ap, h8]
  dsimp only
  rw [gSeq_ap, h9]
  dsimp only
  rw [gSeq_ap, h10]
  dsimp only
  exact h11
theorem mg1_self (x : Option SV) : mg1 x x = x := by
  cases x with
  | none => rfl
  | some x => cases x <;> rfl
theorem mergeD_self : ∀ δ : SS, mergeD δ δ = δ
  | [] => rfl
  | x :: δ => by
    show mg1 x x :: mergeD δ δ = _
    rw [mg1_self, mergeD_self δ]
theorem mg1_none (x : Option SV) : mg1 none x = none := by cases x with
  | none => rfl
  | some x => cases x <;> rfl
theorem mergeD_set : ∀ {δ : SS} {i : Nat} {y : Option SV}, δ[i]? = some none → mergeD δ (δ.set i y) = δ
  | [], _, _, h => by simp at h
  | x :: δ, 0, y, h => by
    have e : x = none := Option.some.inj h
    subst e
    show mg1 none y :: mergeD δ δ = _
    rw [mg1_none, mergeD_self]
  | x :: δ, i + 1, y, h => by
    show mg1 x x :: mergeD δ (δ.set i y) = _
    rw [mg1_self, mergeD_set (δ := δ) (i := i) h]
theorem lc_one {i : Nat} {te : SS → DL.R D} {d y : D} {δ : SS} (hi : δ[i]? = some none) (he : te (δ.set i (some (.d d))) = .ok y (δ.set i (some (.d d)))) : lcOne [i] (fName i) gYes te d δ = some (some y, δ) := by
  have e : (wipeD δ [i]) = δ := by
    show δ.set i none = δ
    apply List.ext_getElem?
    intro j
    by_cases z : i = j
    · subst z
      rw [hi, List.getElem?_set_self (List.getElem?_eq_some_iff.mp hi).1]
    · rw [List.getElem?_set_ne z]
  unfold lcOne
  rw [e]
  simp only [fName_ap, gYes_ap, he]
  rw [mergeD_set hi]
theorem lc_onec {i : Nat} {tt : SS → DL.R Bool} {te : SS → DL.R D} {d y : D} {b : Bool} {δ : SS} (hi : δ[i]? = some none) (ht : tt (δ.set i (some (.d d))) = .ok b (δ.set i (some (.d d)))) (he : b = true → te (δ.set i (some (.d d))) = .ok y (δ.set i (some (.d d)))) :
    lcOne [i] (fName i) tt te d δ = some (if b = true then some y else none, δ) := by
  have e : (wipeD δ [i]) = δ := by
    show δ.set i none = δ
    apply List.ext_getElem?
    intro j
    by_cases z : i = j
    · subst z
      rw [hi, List.getElem?_set_self (List.getElem?_eq_some_iff.mp hi).1]
    · rw [List.getElem?_set_ne z]
  unfold lcOne
  rw [e]
  cases b with
  | false =>
    simp only [fName_ap, ht]
    rw [mergeD_set hi]
    rfl
  | true =>
    simp only [fName_ap, ht, he rfl]
    rw [mergeD_set hi]
    rfl
/-! equal to itself -/
theorem dNe_self {x : D} (h : x.plain = true) (hd : x.depth ≤ 64) : dNe x x = some (.bool false) := by
  show (if eqB x x = true then some (PyData.bool (!PyData.eqv x x)) else none) = _
  rw [if_pos (by unfold eqB; rw [h, decide_eq_true hd]; rfl), PySem.SeqAt.eqv_refl_plain x h]
  rfl
theorem plain_list {α : Type} {f : α → D} (hf : ∀ a, (f a).plain = true) : ∀ l : List α, PyData.plainAll (l.map f) = true
  | [] => rfl
  | a :: l => by
    show (PyData.plain (f a) && PyData.plainAll (l.map f)) = true
    rw [hf a, plain_list hf l]
    rfl
theorem depth_list {α : Type} {f : α → D} (hf : ∀ a, (f a).depth ≤ 2) : ∀ l : List α, PyData.depthAll (l.map f) ≤ 2
  | [] => by simp [PyData.depthAll]
  | a :: l => by
    have h := depth_list hf l
    have h2 := hf a
    simp [PyData.depthAll]
    omega
theorem plain_pairD (p : Str × Int) : (pairD p).plain = true := by simp [pairD, PyData.plain, PyData.plainAll]
theorem depth_pairD (p : Str × Int) : (pairD p).depth ≤ 2 := by simp [pairD, PyData.depth, PyData.depthAll]
theorem plain_oD (p : O) : (oD p).plain = true := by simp [oD, PyData.plain, PyData.plainAll]
theorem depth_oD (p : O) : (oD p).depth ≤ 2 := by simp [oD, PyData.depth, PyData.depthAll]
theorem ne_pairs (l : List (Str × Int)) : dNe (.list (l.map pairD)) (.list (l.map pairD)) = some (.bool false) :=
  dNe_self (plain_list plain_pairD l) (by have := depth_list depth_pairD l; simp [PyData.depth]; omega)
theorem ne_owings (l : List O) : dNe (.tuple (l.map oD)) (.tuple (l.map oD)) = some (.bool false) :=
  dNe_self (plain_list plain_oD l) (by have := depth_list depth_oD l; simp [PyData.depth]; omega)
theorem nd_due (rows : List O) : (keysI (dueL rows)).Nodup := by
  unfold dueL
  rw [keys_mV]
  exact nd_nm rows
theorem sub_self {kvs : List (Str × Int)} (h : (keysI kvs).Nodup) : subM (mD kvs) (mD kvs) = true := by
  unfold subM
  rw [List.all_eq_true]
  intro kv hkv
  unfold mD at hkv
  obtain ⟨p, hp, rfl⟩ := List.mem_map.mp hkv
  clear hkv
  have hv : valI kvs p.1 = some p.2 := by
    induction kvs with
    | nil => cases hp
    | cons q kvs ih =>
      obtain ⟨h1, h2⟩ := List.nodup_cons.mp h
      unfold valI at *
      rw [List.find?_cons]
      rcases List.mem_cons.mp hp with rfl | hp
      · simp
      · have ne : ¬ q.1 = p.1 := fun e => h1 (by
          show q.1 ∈ kvs.map (·.1)
          rw [e]
          exact List.mem_map.mpr ⟨p, hp, rfl⟩)
        have h3 : decide (q.1 = p.1) = false := by simp [ne]
        rw [h3]
        exact ih h2 hp
  show (match (keyP (PyData.str p.1)).bind (valD (mD kvs)) with | some d => flatEq (.int p.2) d | none => false) = true
  rw [show (keyP (PyData.str p.1)).bind (valD (mD kvs)) = some (.int p.2) by
    show valD (mD kvs) (.inr p.1) = _
    rw [valD_mD, hv]
    rfl]
  simp [flatEq]
theorem neM_self {kvs : List (Str × Int)} (h : (keysI kvs).Nodup) : dNeM (.dict (mD kvs)) (.dict (mD kvs)) = some (.bool false) := by
  show (eqM (mD kvs) (mD kvs)).map (fun b => PyData.bool (!b)) = _
  unfold eqM
  rw [if_pos rfl, if_pos (sub_self h)]
  rfl
theorem neM_len {kvs ls : List (Str × Int)} (h : kvs.length ≠ ls.length) : dNeM (.dict (mD kvs)) (.dict (mD ls)) = some (.bool true) := by
  show (eqM (mD kvs) (mD ls)).map (fun b => PyData.bool (!b)) = _
  unfold eqM
  rw [if_neg (by rw [mD_len, mD_len]; exact h)]
  rfl
/-! the tests -/
theorem R5 {rows : List O} (v : VO rows) {x0 x1 x3 x4 x5 x9 x10 x12 x13 x14 x15 x16 : Option SV} : 
    gR5 [x0, x1, some (.d (.tuple (rows.map oD))), x3, x4, x5, some (.d (.list ((dueL rows).map pairD))), some (.o (.m (mD (dueL rows)))), some (.d (.tuple ((toldL rows).map oD))), x9, x10, none, x12, x13, x14, x15, x16]
    = .ok .nx [x0, x1, some (.d (.tuple (rows.map oD))), x3, x4, x5, some (.d (.list ((dueL rows).map pairD))), some (.o (.m (mD (dueL rows)))), some (.d (.tuple ((toldL rows).map oD))), x9, x10, none, x12, x13, x14, x15, x16] := by
  have hN := few_nm v
  have hdl : (dueL rows).length = (nm rows).length := by simp [dueL]
  have hz : gLc [11] (gKeysF 7) (fName 11) (gYes) (gTup (gCons (gVar 11) (gCons (gDIx 7 (gVar 11)) (gNil)))) [x0, x1, some (.d (.tuple (rows.map oD))), x3, x4, x5, some (.d (.list ((dueL rows).map pairD))), some (.f (mD (dueL rows))), some (.d (.tuple ((toldL rows).map oD))), x9, x10, none, x12, x13, x14, x15, x16]
      = .ok (.l ((dueL rows).map pairD)) [x0, x1, some (.d (.tuple (rows.map oD))), x3, x4, x5, some (.d (.list ((dueL rows).map pairD))), some (.f (mD (dueL rows))), some (.d (.tuple ((toldL rows).map oD))), x9, x10, none, x12, x13, x14, x15, x16] := by
    have hk : (mD (dueL rows)).map (·.1) = (nm rows).map PyData.str := by
      unfold dueL
      rw [mD_map, List.map_map]
      rfl
    rw [show (dueL rows).map pairD = (nm rows).map (fun z => pairD (z, net rows z)) by unfold dueL; rw [List.map_map]; rfl]
    refine gLc_map PyData.str _ (nm rows) (by rw [gKeysF_ap]; show DL.R.ok ((mD (dueL rows)).map (·.1)) _ = _; rw [hk]) (small_line (by omega)) fun z hz => lc_one rfl ?_
    have hv : valD (mD (dueL rows)) (.inr z) = some (.int (net rows z)) := valD_mV hz
    simp [hv, pairD]
  have hL : gLk 7 (gLc [11] (gKeysF 7) (fName 11) (gYes) (gTup (gCons (gVar 11) (gCons (gDIx 7 (gVar 11)) (gNil))))) [x0, x1, some (.d (.tuple (rows.map oD))), x3, x4, x5, some (.d (.list ((dueL rows).map pairD))), some (.o (.m (mD (dueL rows)))), some (.d (.tuple ((toldL rows).map oD))), x9, x10, none, x12, x13, x14, x15, x16]
      = .ok (.l ((dueL rows).map pairD)) [x0, x1, some (.d (.tuple (rows.map oD))), x3, x4, x5, some (.d (.list ((dueL rows).map pairD))), some (.o (.m (mD (dueL rows)))), some (.d (.tuple ((toldL rows).map oD))), x9, x10, none, x12, x13, x14, x15, x16] := by
    rw [gLk_ap]
    show (match gLc [11] (gKeysF 7) (fName 11) (gYes) (gTup (gCons (gVar 11) (gCons (gDIx 7 (gVar 11)) (gNil)))) [x0, x1, some (.d (.tuple (rows.map oD))), x3, x4, x5, some (.d (.list ((dueL rows).map pairD))), some (.f (mD (dueL rows))), some (.d (.tuple ((toldL rows).map oD))), x9, x10, none, x12, x13, x14, x15, x16] with
      | .ok c δ1 => DL.R.ok c ((mergeD [x0, x1, some (.d (.tuple (rows.map oD))), x3, x4, x5, some (.d (.list ((dueL rows).map pairD))), some (.f (mD (dueL rows))), some (.d (.tuple ((toldL rows).map oD))), x9, x10, none, x12, x13, x14, x15, x16] δ1).set 7 (some (.o (.m (mD (dueL rows))))))
      | _ => .bad) = _
    rw [hz]
    dsimp only
    rw [mergeD_self]
    rfl
  have e1 := ne_pairs (dueL rows)
  have e2 := ne_owings (toldL rows)
  have e3 := neM_self (nd_due rows)
  have s1 := S_by_rule rows hN
  have s2 := S_nets v
  have s3 := S_netted v
  unfold gR5
  generalize (dueL rows).map pairD = A at *
  generalize (toldL rows).map oD = B at *
  generalize rows.map oD = C at *
  rw [gIf_ap, gOr_ap, gT_ap, gOp_ap, gD_ap, hL]
  simp [e1, e2, e3, s1, s2, s3]
end Kk33
set_option Elab.async false
set_option linter.all false
set_option maxRecDepth 100000
set_option maxHeartbeats 1000000
namespace Kk33
open PySem PySem.Spec PyProof.Rows L2 DL
/-! the dice in slots -/
theorem E_pick {n : Nat} {o q : OC} {r : SS} {g : SS → DL.R D} {xs : List D} {δ0 : SS} (h : Dice n o) (hn : n < 1000000000000) (hx : xs ≠ []) (hl : xs.length < 1000) (h0 : δ0[0]? = some (some (.o q))) (hg : g δ0 = .ok (.list xs) (some (.o o) :: r)) :
    ∃ x o', x ∈ xs ∧ Dice (n + 1) o' ∧ gOfR (gCallR 2 G__law_pick (gAgS 0 (gAgD g gAg0))) δ0 = .ok x (some (.o o') :: r) := by
  obtain ⟨x, o', e, hm, hd⟩ := S_pick h hn hx hl
  refine ⟨x, o', hm, hd, ?_⟩
  simp [h0, hg, e]
theorem E_roll {n : Nat} {o q : OC} {r : SS} {g : SS → DL.R D} {t : Int} {δ0 : SS} (h : Dice n o) (hn : n < 1000000000000) (ht : 0 < t) (ht2 : t < 1073741824) (h0 : δ0[0]? = some (some (.o q))) (hg : g δ0 = .ok (.int t) (some (.o o) :: r)) :
    ∃ x o', 0 ≤ x ∧ x < t ∧ Dice (n + 1) o' ∧ gOfR (gCallR 2 G__law_roll (gAgS 0 (gAgD g gAg0))) δ0 = .ok (.int x) (some (.o o') :: r) := by
  obtain ⟨x, o', e, h1, h2, hd⟩ := S_roll h hn ht ht2
  refine ⟨x, o', h1, h2, hd, ?_⟩
  simp [h0, hg, e]

theorem due_len (rows : List O) : (dueL rows).length = (nm rows).length := by simp [dueL]
theorem told_few {rows : List O} (v : VO rows) : (kvN (toldL rows)).length < 64 := by
  have h1 : (kvN (toldL rows)).length = (dueL (toldL rows)).length := by rw [due_len, nm, srt_len]
  have h2 := List.length_filter_le (fun p : Str × Int => decide (p.2 ≠ 0)) (dueL rows)
  rw [← due_told] at h2
  have h3 := few_nm v
  have h4 := due_len rows
  omega
theorem told_short {rows : List O} (v : VO rows) : (toldL rows).length ≤ 100 := by
  by_cases h : toldL rows = []
  · rw [h]
    simp
  · have h1 := told_len rows h
    have h2 := List.length_filter_le (fun p : Str × Int => decide (p.2 ≠ 0)) (dueL rows)
    have h3 := few_nm v
    have h4 := due_len rows
    omega
theorem pairD_1 (p : Str × Int) : dIx (pairD p) (.int 1) = some (.int p.2) := rfl
theorem R6 {rows : List O} (v : VO rows) {x0 x1 x2 x3 x4 x5 x7 x9 x10 x11 x13 x14 x15 x16 : Option SV} :
    gR6 [x0, x1, x2, x3, x4, x5, some (.d (.list ((dueL rows).map pairD))), x7, some (.d (.tuple ((toldL rows).map oD))), x9, x10, x11, none, x13, x14, x15, x16]
    = .ok .nx [x0, x1, x2, x3, x4, x5, some (.d (.list ((dueL rows).map pairD))), x7, some (.d (.tuple ((toldL rows).map oD))), x9, x10, x11, none, x13, x14, x15, x16] := by
  have hN := few_nm v
  have hl := due_len rows
  have z1 : gLc [12] (gItL (gVar 6)) (fName 12) (gT (gOp dNe (gOp dIx (gVar 12) (gC (.int 1))) (gC (.int 0)))) (gVar 12) [x0, x1, x2, x3, x4, x5, some (.d (.list ((dueL rows).map pairD))), x7, some (.d (.tuple ((toldL rows).map oD))), x9, x10, x11, none, x13, x14, x15, x16]
      = .ok (.l (((dueL rows).filter fun p => decide (p.2 ≠ 0)).map pairD)) [x0, x1, x2, x3, x4, x5, some (.d (.list ((dueL rows).map pairD))), x7, some (.d (.tuple ((toldL rows).map oD))), x9, x10, x11, none, x13, x14, x15, x16] := by
    refine gLc_run pairD (fun p => decide (p.2 ≠ 0)) pairD (dueL rows) (by simp) (small_line (by omega)) fun p _ => lc_onec rfl ?_ fun _ => rfl
    simp [pairD_1]
  have s1 := S_own_nets (toldL rows) (.tuple ((toldL rows).map oD)) (.inl rfl) (by have := told_short v; omega) (told_few v)
  rw [due_told] at s1
  have z2 : gLc [12] (gItL (gD (gOfRO (gCallR 1 G__law_own_nets (gAgD (gVar 8) (gAg0)))))) (fName 12) (gYes) (gVar 12) [x0, x1, x2, x3, x4, x5, some (.d (.list ((dueL rows).map pairD))), x7, some (.d (.tuple ((toldL rows).map oD))), x9, x10, x11, none, x13, x14, x15, x16]
      = .ok (.l (((dueL rows).filter fun p => decide (p.2 ≠ 0)).map pairD)) [x0, x1, x2, x3, x4, x5, some (.d (.list ((dueL rows).map pairD))), x7, some (.d (.tuple ((toldL rows).map oD))), x9, x10, x11, none, x13, x14, x15, x16] := by
    refine gLc_map pairD pairD ((dueL rows).filter fun p => decide (p.2 ≠ 0)) (by simp [s1]) (small_line (by have := List.length_filter_le (fun p : Str × Int => decide (p.2 ≠ 0)) (dueL rows); omega)) fun p _ => lc_one rfl rfl
  have e := ne_pairs ((dueL rows).filter fun p => decide (p.2 ≠ 0))
  unfold gR6
  rw [gIf_ap, gT_ap, gOp_ap, gD_ap, z1, bind_ok, bind_ok, gD_ap, z2, bind_ok, bind_ok]
  simp only [OC.toD, e, opt_some, bind_ok, dBool_b]
  rfl
theorem dSum_ints (ns : List Int) : dSum (.list (ns.map .int)) = some (.int ns.sum) := by
  show (intsOf (ns.map PyData.int)).bind (fun ns => (some ns.sum).map PyData.int) = _
  rw [intsOf_map]
  rfl
theorem R7 {rows : List O} (v : VO rows) {x0 x1 x2 x3 x4 x5 x6 x7 x9 x10 x11 x12 x16 : Option SV} :
    gR7 [x0, x1, x2, x3, x4, x5, x6, x7, some (.d (.tuple ((toldL rows).map oD))), x9, x10, x11, x12, none, none, none, x16]
    = .ok .nx [x0, x1, x2, x3, x4, x5, x6, x7, some (.d (.tuple ((toldL rows).map oD))), some (.d (.int (((toldL rows).map (·.2.2)).sum))), x10, x11, x12, none, none, none, x16] := by
  have hs := told_short v
  have z : gLc [13, 14, 15] (gItT (gVar 8)) (fTup 3 (fCons (fName 13) (fCons (fName 14) (fCons (fName 15) (fNil))))) (gYes) (gVar 15) [x0, x1, x2, x3, x4, x5, x6, x7, some (.d (.tuple ((toldL rows).map oD))), x9, x10, x11, x12, none, none, none, x16]
      = .ok (.l (((toldL rows).map (·.2.2)).map .int)) [x0, x1, x2, x3, x4, x5, x6, x7, some (.d (.tuple ((toldL rows).map oD))), x9, x10, x11, x12, none, none, none, x16] := by
    rw [List.map_map]
    refine gLc_map oD _ (toldL rows) (by simp) (small_line (by omega)) fun o _ => ?_
    simp [lcOne, oD, mg1_self, mg1_none, -mg1]
  have e := dSum_ints ((toldL rows).map (·.2.2))
  unfold gR7
  rw [gAsg_ap, gUn_ap, gD_ap, z, bind_ok, bind_ok]
  simp only [OC.toD, e, opt_some, bind_ok]
  rfl
theorem ne_empty (l : List O) : dNe (.tuple (l.map oD)) (.tuple []) = some (.bool (!l.isEmpty)) := by
  have h1 : PyData.plain (.tuple (l.map oD)) = true := plain_list plain_oD l
  have h2 : PyData.depth (.tuple (l.map oD)) ≤ 64 := by
    have := depth_list depth_oD l
    simp [PyData.depth]
    omega
  show (if eqB _ _ = true then some (PyData.bool (!PyData.eqv _ _)) else none) = _
  rw [if_pos (by unfold eqB; rw [h1, decide_eq_true h2]; rfl)]
  cases l with
  | nil => rfl
  | cons p l => simp [PyData.eqv, PyData.eqvAll]
theorem R8 {rows : List O} (v : VO rows) {x0 x1 x2 x3 x4 x5 x7 x10 x12 x13 x14 x15 : Option SV} :
    gR8 [x0, x1, x2, x3, x4, x5, some (.d (.list ((dueL rows).map pairD))), x7, some (.d (.tuple ((toldL rows).map oD))), some (.d (.int (((toldL rows).map (·.2.2)).sum))), x10, none, x12, x13, x14, x15, none]
    = .ok .nx [x0, x1, x2, x3, x4, x5, some (.d (.list ((dueL rows).map pairD))), x7, some (.d (.tuple ((toldL rows).map oD))), some (.d (.int (((toldL rows).map (·.2.2)).sum))), x10, none, x12, x13, x14, x15, none] := by
  have hN := few_nm v
  have hl := due_len rows
  have z1 : gLc [11, 16] (gItL (gVar 6)) (fTup 2 (fCons (fName 11) (fCons (fName 16) (fNil)))) (gT (gOp dGt (gVar 16) (gC (.int 0)))) (gVar 16) [x0, x1, x2, x3, x4, x5, some (.d (.list ((dueL rows).map pairD))), x7, some (.d (.tuple ((toldL rows).map oD))), some (.d (.int (((toldL rows).map (·.2.2)).sum))), x10, none, x12, x13, x14, x15, none]
      = .ok (.l ((((dueL rows).filter fun p => decide (0 < p.2)).map (·.2)).map .int)) [x0, x1, x2, x3, x4, x5, some (.d (.list ((dueL rows).map pairD))), x7, some (.d (.tuple ((toldL rows).map oD))), some (.d (.int (((toldL rows).map (·.2.2)).sum))), x10, none, x12, x13, x14, x15, none] := by
    rw [List.map_map]
    refine gLc_run pairD (fun p => decide (0 < p.2)) _ (dueL rows) (by simp) (small_line (by omega)) fun p _ => ?_
    by_cases c : 0 < p.2 <;> simp [lcOne, pairD, mg1_self, mg1_none, -mg1, c]
  have z2 : gLc [11, 16] (gItL (gVar 6)) (fTup 2 (fCons (fName 11) (fCons (fName 16) (fNil)))) (gT (gOp dNe (gVar 16) (gC (.int 0)))) (gC (.int 1)) [x0, x1, x2, x3, x4, x5, some (.d (.list ((dueL rows).map pairD))), x7, some (.d (.tuple ((toldL rows).map oD))), some (.d (.int (((toldL rows).map (·.2.2)).sum))), x10, none, x12, x13, x14, x15, none]
      = .ok (.l (((dueL rows).filter fun p => decide (p.2 ≠ 0)).map fun _ => .int 1)) [x0, x1, x2, x3, x4, x5, some (.d (.list ((dueL rows).map pairD))), x7, some (.d (.tuple ((toldL rows).map oD))), some (.d (.int (((toldL rows).map (·.2.2)).sum))), x10, none, x12, x13, x14, x15, none] := by
    refine gLc_run pairD (fun p => decide (p.2 ≠ 0)) _ (dueL rows) (by simp) (small_line (by omega)) fun p _ => ?_
    by_cases c : p.2 = 0 <;> simp [lcOne, pairD, mg1_self, mg1_none, -mg1, c]
  have e1 := dSum_ints (((dueL rows).filter fun p => decide (0 < p.2)).map (·.2))
  rw [← told_sum] at e1
  have e2 := ne_empty (toldL rows)
  unfold gR8
  rw [gIf_ap, gOr_ap, gT_ap, gOp_ap, show gVar 9 [x0, x1, x2, x3, x4, x5, some (.d (.list ((dueL rows).map pairD))), x7, some (.d (.tuple ((toldL rows).map oD))), some (.d (.int (((toldL rows).map (·.2.2)).sum))), x10, none, x12, x13, x14, x15, none] = .ok (.int (((toldL rows).map (·.2.2)).sum)) [x0, x1, x2, x3, x4, x5, some (.d (.list ((dueL rows).map pairD))), x7, some (.d (.tuple ((toldL rows).map oD))), some (.d (.int (((toldL rows).map (·.2.2)).sum))), x10, none, x12, x13, x14, x15, none] from rfl, bind_ok, gUn_ap, gD_ap, z1]
  simp only [bind_ok, OC.toD, e1, opt_some, dNe_ii, ne_eq, not_true_eq_false, decide_false, dBool_b, Bool.false_eq_true, if_false]
  by_cases h : toldL rows = []
  · have e3 : dNe (.tuple ((toldL rows).map oD)) (.tuple []) = some (.bool false) := by rw [e2, h]; rfl
    rw [gAnd_ap, gT_ap, gOp_ap, show gVar 8 [x0, x1, x2, x3, x4, x5, some (.d (.list ((dueL rows).map pairD))), x7, some (.d (.tuple ((toldL rows).map oD))), some (.d (.int (((toldL rows).map (·.2.2)).sum))), x10, none, x12, x13, x14, x15, none] = .ok (.tuple ((toldL rows).map oD)) [x0, x1, x2, x3, x4, x5, some (.d (.list ((dueL rows).map pairD))), x7, some (.d (.tuple ((toldL rows).map oD))), some (.d (.int (((toldL rows).map (·.2.2)).sum))), x10, none, x12, x13, x14, x15, none] from rfl, bind_ok]
    simp [e3]
  · have e3 : dNe (.tuple ((toldL rows).map oD)) (.tuple []) = some (.bool true) := by
      rw [e2]
      cases ht : toldL rows with
      | nil => exact absurd ht h
      | cons o l => rfl
    have hlen := told_len rows h
    rw [gAnd_ap, gT_ap, gOp_ap, show gVar 8 [x0, x1, x2, x3, x4, x5, some (.d (.list ((dueL rows).map pairD))), x7, some (.d (.tuple ((toldL rows).map oD))), some (.d (.int (((toldL rows).map (·.2.2)).sum))), x10, none, x12, x13, x14, x15, none] = .ok (.tuple ((toldL rows).map oD)) [x0, x1, x2, x3, x4, x5, some (.d (.list ((dueL rows).map pairD))), x7, some (.d (.tuple ((toldL rows).map oD))), some (.d (.int (((toldL rows).map (·.2.2)).sum))), x10, none, x12, x13, x14, x15, none] from rfl, bind_ok,
      show gTup gNil [x0, x1, x2, x3, x4, x5, some (.d (.list ((dueL rows).map pairD))), x7, some (.d (.tuple ((toldL rows).map oD))), some (.d (.int (((toldL rows).map (·.2.2)).sum))), x10, none, x12, x13, x14, x15, none] = .ok (.tuple []) [x0, x1, x2, x3, x4, x5, some (.d (.list ((dueL rows).map pairD))), x7, some (.d (.tuple ((toldL rows).map oD))), some (.d (.int (((toldL rows).map (·.2.2)).sum))), x10, none, x12, x13, x14, x15, none] by simp, bind_ok, e3]
    simp only [opt_some, bind_ok, dBool_b, if_true]
    rw [gT_ap, gOp_ap, gUn_ap, show gVar 8 [x0, x1, x2, x3, x4, x5, some (.d (.list ((dueL rows).map pairD))), x7, some (.d (.tuple ((toldL rows).map oD))), some (.d (.int (((toldL rows).map (·.2.2)).sum))), x10, none, x12, x13, x14, x15, none] = .ok (.tuple ((toldL rows).map oD)) [x0, x1, x2, x3, x4, x5, some (.d (.list ((dueL rows).map pairD))), x7, some (.d (.tuple ((toldL rows).map oD))), some (.d (.int (((toldL rows).map (·.2.2)).sum))), x10, none, x12, x13, x14, x15, none] from rfl, bind_ok, dLen_t, opt_some, bind_ok, gUn_ap, gD_ap, z2]
    simp only [bind_ok, OC.toD, dLen_l, opt_some, dGe_ii, List.length_map, dBool_b]
    rw [show decide ((((dueL rows).filter fun p => decide (p.2 ≠ 0)).length : Int) ≤ ((toldL rows).length : Int)) = false from decide_eq_false (by omega)]
    rfl
end Kk33
set_option Elab.async false
set_option linter.all false
set_option maxRecDepth 100000
set_option maxHeartbeats 1000000
namespace Kk33
open PySem PySem.Spec PyProof.Rows L2 DL
def names8 : List Str := ["a", "b", "c", "dd", "e", "ff", "g", "h"]
theorem names_take {r : Int} (h0 : 0 ≤ r) (h1 : r < 7) : ∃ ns : List Str, cSlL (.list (names8.map .str)) none (some (2 + r)) = some (.l (ns.map .str)) ∧ ns ≠ [] ∧ ns.length ≤ 8 ∧ ∀ z ∈ ns, z ∈ names8 := by
  have h : ∀ k : Nat, k < 7 → cSlL (.list (names8.map .str)) none (some (2 + (k : Int))) = some (.l ((names8.take (2 + k)).map .str)) := by
    intro k hk
    match k, hk with
    | 0, _ => rfl
    | 1, _ => rfl
    | 2, _ => rfl
    | 3, _ => rfl
    | 4, _ => rfl
    | 5, _ => rfl
    | 6, _ => rfl
  obtain ⟨k, rfl⟩ : ∃ k : Nat, r = (k : Int) := ⟨r.toNat, by omega⟩
  refine ⟨names8.take (2 + k), h k (by omega), ?_, ?_, fun z hz => List.mem_of_mem_take hz⟩
  · intro e
    have := congrArg List.length e
    rw [List.length_take] at this
    simp [names8] at this
  · rw [List.length_take]
    exact Nat.min_le_right ..
theorem R1 {o : OC} (h : Dice 0 o) : ∃ (o' : OC) (ns : List Str), Dice 1 o' ∧ ns ≠ [] ∧ ns.length ≤ 8 ∧ (∀ z ∈ ns, z ∈ names8) ∧ gR1 (some (.o o) :: List.replicate 16 none) = .ok .nx (some (.o o') :: some (.d (.list (ns.map .str))) :: some (.o (.l [])) :: List.replicate 14 none) := by
  obtain ⟨x, o1, f1, f2, d1, e1⟩ := E_roll (q := o) (t := 7) (r := List.replicate 16 none) (g := gC (.int 7)) (δ0 := some (.o o) :: List.replicate 16 none) h (by omega) (by decide) (by decide) rfl rfl
  obtain ⟨ns, k1, k2, k3, k4⟩ := names_take f1 f2
  refine ⟨o1, ns, d1, k2, k3, k4, ?_⟩
  have hz : gSl cSlL (gD (gLst (gCons (gC (.str "a")) (gCons (gC (.str "b")) (gCons (gC (.str "c")) (gCons (gC (.str "dd")) (gCons (gC (.str "e")) (gCons (gC (.str "ff")) (gCons (gC (.str "g")) (gCons (gC (.str "h")) (gNil))))))))))) (gPartN) (gPart (gOp dAdd (gC (.int 2)) (gOfR (gCallR 2 G__law_roll (gAgS 0 (gAgD (gC (.int 7)) (gAg0))))))) (some (.o o) :: List.replicate 16 none) = .ok (.l (ns.map .str)) (some (.o o1) :: List.replicate 16 none) := by
    rw [gSl_ap, show gD (gLst (gCons (gC (.str "a")) (gCons (gC (.str "b")) (gCons (gC (.str "c")) (gCons (gC (.str "dd")) (gCons (gC (.str "e")) (gCons (gC (.str "ff")) (gCons (gC (.str "g")) (gCons (gC (.str "h")) (gNil)))))))))) (some (.o o) :: List.replicate 16 none) = .ok (.list (names8.map .str)) (some (.o o) :: List.replicate 16 none) by simp [names8]]
    rw [bind_ok, gPartN_ap, bind_ok, gPart_ap, gOp_ap, gC_ap, bind_ok, e1, bind_ok, dAdd_ii, opt_some, bind_ok]
    dsimp only
    rw [bind_ok, k1, opt_some]
  unfold gR1
  rw [gParO_ap, gD_ap, hz]
  simp
/-! the rows -/
structure RV (o : O) : Prop where
  a : o.1 ∈ names8
  b : o.2.1 ∈ names8
  ne : o.1 ≠ o.2.1
  lo : 1 ≤ o.2.2
  hi : o.2.2 ≤ 100000
noncomputable abbrev gRow : SS → DL.R Fl := gSeq (gPar 4 5 (gOfR (gCallR 2 G__law_pick (gAgS 0 (gAgD (gVar 1) (gAg0))))) (gOfR (gCallR 2 G__law_pick (gAgS 0 (gAgD (gVar 1) (gAg0)))))) (gIf (gT (gOp dNe (gVar 4) (gVar 5))) (gApO 2 (gTup (gCons (gVar 4) (gCons (gVar 5) (gCons (gOp dAdd (gC (.int 1)) (gOfR (gCallR 2 G__law_pick (gAgS 0 (gAgD (gD (gLst (gCons (gC (.int 0)) (gCons (gC (.int 4)) (gCons (gC (.int 9)) (gCons (gOfR (gCallR 2 G__law_roll (gAgS 0 (gAgD (gC (.int 1000)) (gAg0))))) (gCons (gC (.int 99999)) (gNil)))))))) (gAg0)))))) (gNil)))))) (gSkip))
theorem row_step {n : Nat} {o : OC} {ns : List Str} {rows : List O} {u3 u4 u5 : Option SV} {r : SS} (h : Dice n o) (hn : n < 1000000) (h1 : ns ≠ []) (h2 : ns.length ≤ 8) (h3 : ∀ z ∈ ns, z ∈ names8) (hl : rows.length < 1000) :
    ∃ (o' : OC) (rows' : List O) (v4 v5 : Option SV), Dice (n + 4) o' ∧ rows'.length ≤ rows.length + 1 ∧ ((∀ o ∈ rows, RV o) → ∀ o ∈ rows', RV o) ∧ gRow (some (.o o) :: some (.d (.list (ns.map .str))) :: some (.o (.l (rows.map oD))) :: u3 :: u4 :: u5 :: r)
      = .ok .nx (some (.o o') :: some (.d (.list (ns.map .str))) :: some (.o (.l (rows'.map oD))) :: u3 :: v4 :: v5 :: r) := by
  obtain ⟨x, o1, hx, d1, e1⟩ := E_pick (q := o) (xs := ns.map .str) (r := some (.d (.list (ns.map .str))) :: some (.o (.l (rows.map oD))) :: u3 :: u4 :: u5 :: r) (g := gVar 1) (δ0 := some (.o o) :: some (.d (.list (ns.map .str))) :: some (.o (.l (rows.map oD))) :: u3 :: u4 :: u5 :: r) h (by omega) (by simpa using h1) (by simp; omega) rfl rfl
  obtain ⟨a, ha, rfl⟩ := List.mem_map.mp hx
  obtain ⟨x, o2, hx, d2, e2⟩ := E_pick (q := o1) (xs := ns.map .str) (r := some (.d (.list (ns.map .str))) :: some (.o (.l (rows.map oD))) :: u3 :: u4 :: u5 :: r) (g := gVar 1) (δ0 := some (.o o1) :: some (.d (.list (ns.map .str))) :: some (.o (.l (rows.map oD))) :: u3 :: u4 :: u5 :: r) d1 (by omega) (by simpa using h1) (by simp; omega) rfl rfl
  obtain ⟨b, hb, rfl⟩ := List.mem_map.mp hx
  have hp : gPar 4 5 (gOfR (gCallR 2 G__law_pick (gAgS 0 (gAgD (gVar 1) (gAg0))))) (gOfR (gCallR 2 G__law_pick (gAgS 0 (gAgD (gVar 1) (gAg0))))) (some (.o o) :: some (.d (.list (ns.map .str))) :: some (.o (.l (rows.map oD))) :: u3 :: u4 :: u5 :: r)
      = .ok .nx (some (.o o2) :: some (.d (.list (ns.map .str))) :: some (.o (.l (rows.map oD))) :: u3 :: some (.d (.str a)) :: some (.d (.str b)) :: r) := by
    rw [gPar_ap, e1, bind_ok, e2, bind_ok]
    rfl
  unfold gRow
  rw [gSeq_ap, hp]
  dsimp only
  by_cases c : a = b
  · refine ⟨o2, rows, some (.d (.str a)), some (.d (.str b)), d2.mono (by omega), by omega, fun z => z, ?_⟩
    have e : dNe (.str a) (.str b) = some (.bool false) := by rw [dNe_ss]; simp [c]
    rw [gIf_ap, gT_ap, gOp_ap, show gVar 4 (some (.o o2) :: some (.d (.list (ns.map .str))) :: some (.o (.l (rows.map oD))) :: u3 :: some (.d (.str a)) :: some (.d (.str b)) :: r) = .ok (.str a) (some (.o o2) :: some (.d (.list (ns.map .str))) :: some (.o (.l (rows.map oD))) :: u3 :: some (.d (.str a)) :: some (.d (.str b)) :: r) from rfl, bind_ok,
      show gVar 5 (some (.o o2) :: some (.d (.list (ns.map .str))) :: some (.o (.l (rows.map oD))) :: u3 :: some (.d (.str a)) :: some (.d (.str b)) :: r) = .ok (.str b) (some (.o o2) :: some (.d (.list (ns.map .str))) :: some (.o (.l (rows.map oD))) :: u3 :: some (.d (.str a)) :: some (.d (.str b)) :: r) from rfl, bind_ok, e]
    rfl
  · obtain ⟨k, o3, k1, k2, d3, e3⟩ := E_roll (q := o2) (t := 1000) (r := some (.d (.list (ns.map .str))) :: some (.o (.l (rows.map oD))) :: u3 :: some (.d (.str a)) :: some (.d (.str b)) :: r) (g := gC (.int 1000)) (δ0 := some (.o o2) :: some (.d (.list (ns.map .str))) :: some (.o (.l (rows.map oD))) :: u3 :: some (.d (.str a)) :: some (.d (.str b)) :: r) d2 (by omega) (by decide) (by decide) rfl rfl
    have e4 : gD (gLst (gCons (gC (.int 0)) (gCons (gC (.int 4)) (gCons (gC (.int 9)) (gCons (gOfR (gCallR 2 G__law_roll (gAgS 0 (gAgD (gC (.int 1000)) (gAg0))))) (gCons (gC (.int 99999)) (gNil))))))) (some (.o o2) :: some (.d (.list (ns.map .str))) :: some (.o (.l (rows.map oD))) :: u3 :: some (.d (.str a)) :: some (.d (.str b)) :: r)
        = .ok (.list [.int 0, .int 4, .int 9, .int k, .int 99999]) (some (.o o3) :: some (.d (.list (ns.map .str))) :: some (.o (.l (rows.map oD))) :: u3 :: some (.d (.str a)) :: some (.d (.str b)) :: r) := by
      rw [gD_ap, gLst_ap, gCons_ap, gC_ap, bind_ok, gCons_ap, gC_ap, bind_ok, gCons_ap, gC_ap, bind_ok, gCons_ap, e3]
      simp
    obtain ⟨x, o4, hx, d4, e5⟩ := E_pick (q := o2) (δ0 := some (.o o2) :: some (.d (.list (ns.map .str))) :: some (.o (.l (rows.map oD))) :: u3 :: some (.d (.str a)) :: some (.d (.str b)) :: r) d3 (by omega) (by simp) (by simp) rfl e4
    obtain ⟨y, rfl, y1, y2⟩ : ∃ y : Int, x = .int y ∧ 0 ≤ y ∧ y ≤ 99999 := by
      simp only [List.mem_cons, List.not_mem_nil, or_false] at hx
      rcases hx with rfl | rfl | rfl | rfl | rfl
      · exact ⟨0, rfl, by decide, by decide⟩
      · exact ⟨4, rfl, by decide, by decide⟩
      · exact ⟨9, rfl, by decide, by decide⟩
      · exact ⟨k, rfl, k1, by omega⟩
      · exact ⟨99999, rfl, by decide, by decide⟩
    refine ⟨o4, rows ++ [(a, b, 1 + y)], some (.d (.str a)), some (.d (.str b)), d4, by simp, fun z o ho => ?_, ?_⟩
    · rcases List.mem_append.mp ho with ho | ho
      · exact z o ho
      · rw [List.mem_singleton] at ho
        subst ho
        exact ⟨h3 a ha, h3 b hb, c, by dsimp only; omega, by dsimp only; omega⟩
    · have e : dNe (.str a) (.str b) = some (.bool true) := by rw [dNe_ss]; simp [c]
      have hsz : (rows.map oD).length < sizeLine := by
        rw [List.length_map, sizeLine_eq]
        omega
      have et : gTup (gCons (gVar 4) (gCons (gVar 5) (gCons (gOp dAdd (gC (.int 1)) (gOfR (gCallR 2 G__law_pick (gAgS 0 (gAgD (gD (gLst (gCons (gC (.int 0)) (gCons (gC (.int 4)) (gCons (gC (.int 9)) (gCons (gOfR (gCallR 2 G__law_roll (gAgS 0 (gAgD (gC (.int 1000)) (gAg0))))) (gCons (gC (.int 99999)) (gNil)))))))) (gAg0)))))) (gNil))))
          (some (.o o2) :: some (.d (.list (ns.map .str))) :: some (.o (.l (rows.map oD))) :: u3 :: some (.d (.str a)) :: some (.d (.str b)) :: r) = .ok (oD (a, b, 1 + y)) (some (.o o4) :: some (.d (.list (ns.map .str))) :: some (.o (.l (rows.map oD))) :: u3 :: some (.d (.str a)) :: some (.d (.str b)) :: r) := by
        rw [gTup_ap, gCons_ap, show gVar 4 (some (.o o2) :: some (.d (.list (ns.map .str))) :: some (.o (.l (rows.map oD))) :: u3 :: some (.d (.str a)) :: some (.d (.str b)) :: r) = .ok (.str a) (some (.o o2) :: some (.d (.list (ns.map .str))) :: some (.o (.l (rows.map oD))) :: u3 :: some (.d (.str a)) :: some (.d (.str b)) :: r) from rfl, bind_ok, gCons_ap,
          show gVar 5 (some (.o o2) :: some (.d (.list (ns.map .str))) :: some (.o (.l (rows.map oD))) :: u3 :: some (.d (.str a)) :: some (.d (.str b)) :: r) = .ok (.str b) (some (.o o2) :: some (.d (.list (ns.map .str))) :: some (.o (.l (rows.map oD))) :: u3 :: some (.d (.str a)) :: some (.d (.str b)) :: r) from rfl, bind_ok, gCons_ap, gOp_ap, gC_ap, bind_ok, e5]
        simp [oD]
      rw [gIf_ap, gT_ap, gOp_ap, show gVar 4 (some (.o o2) :: some (.d (.list (ns.map .str))) :: some (.o (.l (rows.map oD))) :: u3 :: some (.d (.str a)) :: some (.d (.str b)) :: r) = .ok (.str a) (some (.o o2) :: some (.d (.list (ns.map .str))) :: some (.o (.l (rows.map oD))) :: u3 :: some (.d (.str a)) :: some (.d (.str b)) :: r) from rfl, bind_ok,
        show gVar 5 (some (.o o2) :: some (.d (.list (ns.map .str))) :: some (.o (.l (rows.map oD))) :: u3 :: some (.d (.str a)) :: some (.d (.str b)) :: r) = .ok (.str b) (some (.o o2) :: some (.d (.list (ns.map .str))) :: some (.o (.l (rows.map oD))) :: u3 :: some (.d (.str a)) :: some (.d (.str b)) :: r) from rfl, bind_ok, e, opt_some, bind_ok, dBool_b, opt_some, bind_ok]
      rw [if_pos rfl, gApO_ap]
      show gApp 2 _ _ = _
      rw [gApp_ap, et]
      show (if (rows.map oD).length < sizeLine then _ else _) = _
      rw [if_pos hsz]
      simp
theorem R2 {n : Nat} {o : OC} {ns : List Str} (h : Dice n o) (hn : n < 1000) (h1 : ns ≠ []) (h2 : ns.length ≤ 8) (h3 : ∀ z ∈ ns, z ∈ names8) :
    ∃ (o' : OC) (rows : List O) (u3 u4 u5 : Option SV), Dice (n + 401) o' ∧ rows.length ≤ 100 ∧ (∀ o ∈ rows, RV o) ∧ gR2 (some (.o o) :: some (.d (.list (ns.map .str))) :: some (.o (.l [])) :: List.replicate 14 none)
      = .ok .nx (some (.o o') :: some (.d (.list (ns.map .str))) :: some (.o (.l (rows.map oD))) :: u3 :: u4 :: u5 :: List.replicate 11 none) := by
  obtain ⟨x, o2, hx, d2, e2⟩ := E_pick (q := o) (r := some (.d (.list (ns.map .str))) :: some (.o (.l [])) :: List.replicate 14 none) (g := gD (gLst (gCons (gC (.int 0)) (gCons (gC (.int 1)) (gCons (gC (.int 3)) (gCons (gC (.int 9)) (gCons (gC (.int 100)) (gNil)))))))) (xs := [.int 0, .int 1, .int 3, .int 9, .int 100]) (δ0 := some (.o o) :: some (.d (.list (ns.map .str))) :: some (.o (.l [])) :: List.replicate 14 none) h (by omega) (by simp) (by simp) rfl (by simp)
  obtain ⟨m, rfl, m1⟩ : ∃ y : Nat, x = .int (y : Nat) ∧ y ≤ 100 := by
    simp only [List.mem_cons, List.not_mem_nil, or_false] at hx
    rcases hx with rfl | rfl | rfl | rfl | rfl
    · exact ⟨0, rfl, by decide⟩
    · exact ⟨1, rfl, by decide⟩
    · exact ⟨3, rfl, by decide⟩
    · exact ⟨9, rfl, by decide⟩
    · exact ⟨100, rfl, by decide⟩
  obtain ⟨fl, δ', e, g1⟩ := for_run (B := fun _ => False) (T := fun _ _ => False) (tg := fName 3) (gb := gRow) (rangeD 0 m)
    (fun j δ => ∃ (o' : OC) (rows : List O) (u3 u4 u5 : Option SV), Dice (n + 1 + 4 * j) o' ∧ rows.length ≤ j ∧ (∀ o ∈ rows, RV o) ∧ δ = (some (.o o') :: some (.d (.list (ns.map .str))) :: some (.o (.l (rows.map oD))) :: u3 :: u4 :: u5 :: List.replicate 11 none : SS))
    (some (.o o2) :: some (.d (.list (ns.map .str))) :: some (.o (.l [])) :: none :: none :: none :: List.replicate 11 none) ⟨o2, [], none, none, none, d2, by simp, by simp, rfl⟩
    (fun j d δ hd ⟨o', rows, u3, u4, u5, q1, q2, q3, e⟩ => by
      subst e
      have hj : j < m := by
        have := (List.getElem?_eq_some_iff.mp hd).1
        rw [rng_len] at this
        exact this
      rw [rng_at hj] at hd
      cases hd
      obtain ⟨o3, rows', v4, v5, k1, k2, k3, k4⟩ := row_step (u3 := some (.d (.int (j : Nat)))) (u4 := u4) (u5 := u5) (r := List.replicate 11 none) (rows := rows) q1 (by omega) h1 h2 h3 (by omega)
      refine ⟨_, rfl, .nx, _, k4, o3, rows', _, _, _, ?_, by omega, k3 q3, rfl⟩
      rw [show n + 1 + 4 * (j + 1) = n + 1 + 4 * j + 4 by omega]
      exact k1)
  rw [rng_len] at g1
  cases fl with
  | nx =>
    rcases g1 with ⟨o', rows, u3, u4, u5, q1, q2, q3, rfl⟩ | g1
    · refine ⟨o', rows, u3, u4, u5, q1.mono (by omega), by omega, q3, ?_⟩
      unfold gR2
      rw [gFor_ap, range_to e2 (by omega), bind_ok]
      exact e
    · exact g1.elim
  | bk => exact g1.elim
  | ct => exact g1.elim
  | rt v => exact g1.elim
theorem few_of {rows : List O} (h : ∀ o ∈ rows, RV o) : (kvN rows).length ≤ 8 := by
  have h1 := nd_len (m := names8) (nd_kvN rows) fun z hz => by
    obtain ⟨o, ho, e⟩ := (mem_kvN rows z).mp hz
    rcases e with rfl | rfl
    · exact (h o ho).a
    · exact (h o ho).b
  simpa [keysI, names8] using h1
theorem names_ok : ∀ z ∈ names8, nameB z = true ∧ z.length ≤ 1000 ∧ z ≠ "zz" := by decide +kernel
theorem VO_of {rows : List O} (hl : rows.length ≤ 100) (h : ∀ o ∈ rows, RV o) : VO rows := by
  refine ⟨hl, ?_, fun o ho => ⟨(names_ok _ (h o ho).a).2.1, (names_ok _ (h o ho).b).2.1⟩, by have := few_of h; omega⟩
  rw [List.all_eq_true]
  intro o ho
  have r := h o ho
  unfold owB
  rw [(names_ok _ r.a).1, (names_ok _ r.b).1, decide_eq_true r.ne, decide_eq_true ⟨r.lo, r.hi⟩]
  rfl
theorem no_zz {rows : List O} (h : ∀ o ∈ rows, RV o) : ("zz" : Str) ∉ nm rows := fun hz => by
  obtain ⟨o, ho, e⟩ := (mem_nm rows _).mp hz
  rcases e with e | e
  · exact (names_ok _ (h o ho).a).2.2 e.symm
  · exact (names_ok _ (h o ho).b).2.2 e.symm
end Kk33
set_option Elab.async false
set_option linter.all false
set_option maxRecDepth 100000
set_option maxHeartbeats 1000000
namespace Kk33
open PySem PySem.Spec PyProof.Rows L2 DL
theorem R3 {rows : List O} (v : VO rows) {x0 x1 x3 x4 x5 x6 x7 x8 x9 x10 x11 x12 x13 x14 x15 x16 : Option SV} :
    gR3 [x0, x1, some (.o (.l (rows.map oD))), x3, x4, x5, x6, x7, x8, x9, x10, x11, x12, x13, x14, x15, x16]
    = .ok .nx [x0, x1, some (.d (.tuple (rows.map oD))), x3, x4, x5, some (.d (.list ((dueL rows).map pairD))), x7, x8, x9, x10, x11, x12, x13, x14, x15, x16] := by
  have s := S_own_nets rows (.list (rows.map oD)) (.inr rfl) (by have := v.len; omega) v.few
  unfold gR3
  simp [s]
theorem R4 {rows : List O} (v : VO rows) {x0 x1 x3 x4 x5 x6 x7 x8 x9 x10 x11 x12 x13 x14 x15 x16 : Option SV} :
    gR4 [x0, x1, some (.d (.tuple (rows.map oD))), x3, x4, x5, x6, x7, x8, x9, x10, x11, x12, x13, x14, x15, x16]
    = .ok .nx [x0, x1, some (.d (.tuple (rows.map oD))), x3, x4, x5, x6, some (.o (.m (mD (dueL rows)))), some (.d (.tuple ((toldL rows).map oD))), x9, x10, x11, x12, x13, x14, x15, x16] := by
  have s1 := S_nets v
  have s2 := S_netted v
  unfold gR4
  simp [s1, s2, mg1_self, -mg1]
theorem R9 {kvs : List (Str × Int)} (hl : kvs.length ≤ 100) {x0 x1 x2 x3 x4 x5 x6 x8 x9 x10 x11 x12 x13 x14 x15 x16 : Option SV} :
    gR9 [x0, x1, x2, x3, x4, x5, x6, some (.o (.m (mD kvs))), x8, x9, x10, x11, x12, x13, x14, x15, x16]
    = .ok .nx [x0, x1, x2, x3, x4, x5, x6, some (.o (.m (mD (putI kvs "zz" 1)))), x8, x9, x10, x11, x12, x13, x14, x15, x16] := by
  have h := mD_small (kvs := kvs) (by omega)
  have e := putD_mD kvs "zz" 1
  unfold gR9
  simp [h, e]
/-! values that are no owings -/
def fO (x : D) : Bool := match x with
  | .tuple [.str a, .str b, .int n] => owB (a, b, n)
  | _ => false
theorem is_fO (o : O) (h1 : o.1.length ≤ 1000) (h2 : o.2.1.length ≤ 1000) : G_is_owing [.d (oD o)] = .ok (.d (.bool (fO (oD o)))) [none] := S_is_owing o h1 h2
theorem last_bad {rows : List O} (v : VO rows) {x : D} (hx : G_is_owing [.d x] = .ok (.d (.bool (fO x))) [none]) (hf : fO x = false) : G_are_owings [.d (.tuple (rows.map oD ++ [x]))] = .ok (.d (.bool false)) [none] := by
  have h := S_are_owings (rows.map oD ++ [x]) fO (fun y hy => by
    rcases List.mem_append.mp hy with hy | hy
    · obtain ⟨o, ho, rfl⟩ := List.mem_map.mp hy
      exact is_fO o (v.sml o ho).1 (v.sml o ho).2
    · rw [List.mem_singleton] at hy
      rw [hy]
      exact hx) (by have := v.len; simp; omega)
  rw [h, List.all_append]
  rw [show ([x].all fO) = false by simp [hf]]
  simp
theorem one_bad {x : D} (hx : G_is_owing [.d x] = .ok (.d (.bool (fO x))) [none]) (hf : fO x = false) : G_are_owings [.d (.tuple [x])] = .ok (.d (.bool false)) [none] := by
  have h := S_are_owings [x] fO (fun y hy => by
    rw [List.mem_singleton] at hy
    rw [hy]
    exact hx) (by simp)
  rw [h]
  simp [hf]
def rep101 : List D := repD 101 [.tuple [.str "a", .str "b", .int 1]]
theorem rep101_e : dRepT (.tuple [.tuple [.str "a", .str "b", .int 1]]) (.int 101) = some (.tuple rep101) := by
  unfold dRepT
  dsimp only
  rw [if_pos ⟨by simp, by decide, by decide, by decide⟩]
  rfl
theorem rep101_l : rep101.length = 101 := rfl
theorem dAdd_tt {xs ys : List D} (h : xs.length + ys.length ≤ 1000000) : dAdd (.tuple xs) (.tuple ys) = some (.tuple (xs ++ ys)) := by
  show (if xs.length + ys.length ≤ sizeLine then some (PyData.tuple (xs ++ ys)) else none) = _
  rw [if_pos (small_line h)]
noncomputable abbrev gBadL : SS → DL.R D := gD (gLst (gCons (gC .none) (gCons (gD (gUnN cList (gVar 2))) (gCons (gOp dAdd (gVar 2) (gTup (gCons (gTup (gCons (gC (.str "a")) (gCons (gC (.str "a")) (gCons (gC (.int 1)) (gNil))))) (gNil)))) (gCons (gOp dAdd (gVar 2) (gTup (gCons (gTup (gCons (gC (.str "a")) (gCons (gC (.str "b")) (gNil)))) (gNil)))) (gCons (gTup (gCons (gTup (gCons (gC (.str "a")) (gCons (gC (.str "b")) (gCons (gC (.int 0)) (gNil))))) (gNil))) (gCons (gTup (gCons (gTup (gCons (gC (.str "A")) (gCons (gC (.str "b")) (gCons (gC (.int 1)) (gNil))))) (gNil))) (gCons (gTup (gCons (gTup (gCons (gC (.str "a")) (gCons (gC (.str "b")) (gCons (gC (.int 100001)) (gNil))))) (gNil))) (gCons (gOp dRepT (gTup (gCons (gTup (gCons (gC (.str "a")) (gCons (gC (.str "b")) (gCons (gC (.int 1)) (gNil))))) (gNil))) (gC (.int 101))) (gNil))))))))))
theorem bad_list {rows : List O} (v : VO rows) {x0 x1 x3 x4 x5 x6 x7 x8 x9 x10 x11 x12 x13 x14 x15 x16 : Option SV} :
    ∃ xs : List D, xs.length = 8 ∧ (∀ y ∈ xs, G_are_owings [.d y] = .ok (.d (.bool false)) [none]) ∧ gBadL [x0, x1, some (.d (.tuple (rows.map oD))), x3, x4, x5, x6, x7, x8, x9, x10, x11, x12, x13, x14, x15, x16]
      = .ok (.list xs) [x0, x1, some (.d (.tuple (rows.map oD))), x3, x4, x5, x6, x7, x8, x9, x10, x11, x12, x13, x14, x15, x16] := by
  refine ⟨[.none, .list (rows.map oD), .tuple (rows.map oD ++ [.tuple [.str "a", .str "a", .int 1]]), .tuple (rows.map oD ++ [.tuple [.str "a", .str "b"]]), .tuple [.tuple [.str "a", .str "b", .int 0]], .tuple [.tuple [.str "A", .str "b", .int 1]], .tuple [.tuple [.str "a", .str "b", .int 100001]], .tuple rep101], rfl, ?_, ?_⟩
  · intro y hy
    simp only [List.mem_cons, List.not_mem_nil, or_false] at hy
    rcases hy with rfl | rfl | rfl | rfl | rfl | rfl | rfl | rfl
    · exact are_owings_n rfl
    · exact are_owings_n rfl
    · exact last_bad v (is_fO ("a", "a", 1) (by decide +kernel) (by decide +kernel)) (by decide +kernel)
    · exact last_bad v (is_owing_n rfl) rfl
    · exact one_bad (is_fO ("a", "b", 0) (by decide +kernel) (by decide +kernel)) (by decide +kernel)
    · exact one_bad (is_fO ("A", "b", 1) (by decide +kernel) (by decide +kernel)) (by decide +kernel)
    · exact one_bad (is_fO ("a", "b", 100001) (by decide +kernel) (by decide +kernel)) (by decide +kernel)
    · exact are_owings_n (by simp [tupMost, rep101_l])
  · have a1 := dAdd_tt (xs := rows.map oD) (ys := [.tuple [.str "a", .str "a", .int 1]]) (by have := v.len; simp; omega)
    have a2 := dAdd_tt (xs := rows.map oD) (ys := [.tuple [.str "a", .str "b"]]) (by have := v.len; simp; omega)
    unfold gBadL
    simp [rep101_e, a1, a2]
theorem plain_s (a b : Str) : eqB (.list [.str a, .str b]) (.list [.str a, .str b]) = true := by
  simp [eqB, PyData.plain, PyData.plainAll, PyData.depth, PyData.depthAll]
theorem dEq_ss2 (a : Str) : dEq (.list [.str a, .str a]) (.list [.str a, .str a]) = some (.bool true) := by
  show (if eqB _ _ = true then some (PyData.bool (PyData.eqv _ _)) else none) = _
  rw [if_pos (plain_s a a)]
  simp [PyData.eqv, PyData.eqvAll]
theorem cRep_2 (a : Str) : cRep (.list [.str a]) (.int 2) = some (.l [.str a, .str a]) := by
  unfold cRep
  dsimp only
  rw [if_pos ⟨by decide, by decide, small_line (by simp)⟩]
  rfl
theorem R11 {rows : List O} (v : VO rows) {kvs : List (Str × Int)} (hk : (dueL rows).length ≠ kvs.length) {y : D} (hy : G_are_owings [.d y] = .ok (.d (.bool false)) [none]) {x0 x1 x3 x4 x5 x6 x8 x9 x11 x12 x13 x14 x15 x16 : Option SV} :
    gR11 [x0, x1, some (.d (.tuple (rows.map oD))), x3, x4, x5, x6, some (.o (.m (mD kvs))), x8, x9, some (.d y), x11, x12, x13, x14, x15, x16]
    = .ok (.rt (.d (.bool true))) [x0, x1, some (.d (.tuple (rows.map oD))), x3, x4, x5, x6, some (.o (.m (mD kvs))), x8, x9, some (.d y), x11, x12, x13, x14, x15, x16] := by
  have s1 := S_nets v
  have e := neM_len hk
  have h1 := X_nets hy
  have h2 := X_netted hy
  unfold gR11
  simp [s1, e, h1, h2, cRep_2, dEq_ss2]
theorem S_right {o : OC} (h : Dice 0 o) : ∃ o', G__law_right [.o o] = .ok (.d (.bool true)) [some o'] := by
  obtain ⟨o1, ns, d1, n1, n2, n3, r1⟩ := R1 h
  obtain ⟨o2, rows, u3, u4, u5, d2, l2, v2, r2⟩ := R2 d1 (by omega) n1 n2 n3
  have v := VO_of l2 v2
  have hdl : (dueL rows).length ≤ 100 := by
    have := due_len rows
    have := few_nm v
    omega
  obtain ⟨xs, l5, hall, e5⟩ := bad_list v (x0 := some (.o o2)) (x1 := some (.d (.list (ns.map .str)))) (x3 := u3) (x4 := u4) (x5 := u5) (x6 := some (.d (.list ((dueL rows).map pairD)))) (x7 := some (.o (.m (mD (putI (dueL rows) "zz" 1))))) (x8 := some (.d (.tuple ((toldL rows).map oD)))) (x9 := some (.d (.int (((toldL rows).map (·.2.2)).sum)))) (x10 := none) (x11 := none) (x12 := none) (x13 := none) (x14 := none) (x15 := none) (x16 := none)
  obtain ⟨y, o3, hy, d3, e6⟩ := E_pick (q := o2) (xs := xs) d2 (by omega) (fun z => by rw [z] at l5; cases l5) (by omega) rfl e5
  have hput : (putI (dueL rows) "zz" 1).length = (dueL rows).length + 1 := by
    have hn : ("zz" : Str) ∉ keysI (dueL rows) := by
      unfold dueL
      rw [keys_mV]
      exact no_zz v2
    have := keys_putI (dueL rows) "zz" 1
    rw [if_neg hn] at this
    have h2 := congrArg List.length this
    simpa [keysI] using h2
  refine ⟨o3, ?_⟩
  have g := glue_gR r1 r2 (R3 v) (R4 v) (R5 v) (R6 v) (R7 v) (R8 v) (R9 hdl) (show gR10 _ = .ok .nx _ from by
    unfold gR10
    rw [gAsg_ap, e6, bind_ok]
    rfl) (R11 v (kvs := putI (dueL rows) "zz" 1) (by omega) (hall y hy))
  show toRF 1 (g__law_right (some (.o o) :: List.replicate 16 none)) = _
  rw [g]
  rfl
end Kk33
set_option Elab.async false
set_option linter.all false
set_option maxRecDepth 100000
set_option maxHeartbeats 0
namespace Kk33
open PySem PySem.Spec PyProof.Rows L2 DL
/-! ### the head -/
def D_is_integer : He.DefD := ⟨("is_integer", none), "is_integer", "is_integer", defArgs s_is_integer, defBody s_is_integer, defScope s_is_integer, [], []⟩
def D_is_in : He.DefD := ⟨("is_in", none), "is_in", "is_in", defArgs s_is_in, defBody s_is_in, defScope s_is_in, [], []⟩
def D_is_name : He.DefD := ⟨("is_name", none), "is_name", "is_name", defArgs s_is_name, defBody s_is_name, defScope s_is_name, [], []⟩
def D_is_tuple_of : He.DefD := ⟨("is_tuple_of", none), "is_tuple_of", "is_tuple_of", defArgs s_is_tuple_of, defBody s_is_tuple_of, defScope s_is_tuple_of, [], []⟩
def D_are_at_most : He.DefD := ⟨("are_at_most", none), "are_at_most", "are_at_most", defArgs s_are_at_most, defBody s_are_at_most, defScope s_are_at_most, [], []⟩
def D_demand : He.DefD := ⟨("demand", none), "demand", "demand", defArgs s_demand, defBody s_demand, defScope s_demand, [], []⟩
def D_sorted_dict : He.DefD := ⟨("sorted_dict", none), "sorted_dict", "sorted_dict", defArgs s_sorted_dict, defBody s_sorted_dict, defScope s_sorted_dict, [], []⟩
def D_is_owing : He.DefD := ⟨("is_owing", none), "is_owing", "is_owing", defArgs s_is_owing, defBody s_is_owing, defScope s_is_owing, [], []⟩
def D_are_owings : He.DefD := ⟨("are_owings", none), "are_owings", "are_owings", defArgs s_are_owings, defBody s_are_owings, defScope s_are_owings, [], []⟩
def D_nets_of : He.DefD := ⟨("nets_of", none), "nets_of", "nets_of", defArgs s_nets_of, defBody s_nets_of, defScope s_nets_of, [], []⟩
def D_nets : He.DefD := ⟨("nets", none), "nets", "nets", defArgs s_nets, defBody s_nets, defScope s_nets, [], []⟩
def D_netted : He.DefD := ⟨("netted", none), "netted", "netted", defArgs s_netted, defBody s_netted, defScope s_netted, [], []⟩
def D__law_dice : He.DefD := ⟨("_law_dice", none), "_law_dice", "_law_dice", defArgs s__law_dice, defBody s__law_dice, defScope s__law_dice, [], []⟩
def D__law_roll : He.DefD := ⟨("_law_roll", none), "_law_roll", "_law_roll", defArgs s__law_roll, defBody s__law_roll, defScope s__law_roll, [], []⟩
def D__law_pick : He.DefD := ⟨("_law_pick", none), "_law_pick", "_law_pick", defArgs s__law_pick, defBody s__law_pick, defScope s__law_pick, [], []⟩
def D__law_refused : He.DefD := ⟨("_law_refused", none), "_law_refused", "_law_refused", defArgs s__law_refused, defBody s__law_refused, defScope s__law_refused, [], []⟩
def D__law_own_nets : He.DefD := ⟨("_law_own_nets", none), "_law_own_nets", "_law_own_nets", defArgs s__law_own_nets, defBody s__law_own_nets, defScope s__law_own_nets, [], []⟩
def D__law_by_rule : He.DefD := ⟨("_law_by_rule", none), "_law_by_rule", "_law_by_rule", defArgs s__law_by_rule, defBody s__law_by_rule, defScope s__law_by_rule, [], []⟩
def D__law_right : He.DefD := ⟨("_law_right", none), "_law_right", "_law_right", defArgs s__law_right, defBody s__law_right, defScope s__law_right, [], []⟩
def D_law : He.DefD := ⟨("law", none), "law", "law", defArgs s_law, defBody s_law, defScope s_law, [], []⟩
def fn : List He.DefD := [D_is_integer, D_is_in, D_is_name, D_is_tuple_of, D_are_at_most, D_demand, D_sorted_dict, D_is_owing, D_are_owings, D_nets_of, D_nets, D_netted, D__law_dice, D__law_roll, D__law_pick, D__law_refused, D__law_own_nets, D__law_by_rule, D__law_right, D_law]
def fa : List He.Fa := [.glo "is_integer", .glo "is_in", .glo "is_name", .glo "is_tuple_of", .glo "are_at_most", .glo "demand", .glo "sorted_dict", .glo "is_owing", .glo "are_owings", .glo "nets_of", .glo "nets", .glo "netted", .glo "_law_dice", .glo "_law_roll", .glo "_law_pick", .glo "_law_refused", .glo "_law_own_nets", .glo "_law_by_rule", .glo "_law_right", .glo "law", .free "abs", .free "all", .free "bool", .free "int", .free "isinstance", .free "len", .free "list", .free "max", .free "min", .free "range", .free "sorted", .free "str", .free "sum", .free "tuple", .str "LETTERS" "abcdefghijklmnopqrstuvwxyz", .int "MOST_NAME" (8), .int "MOST_OWED" (100000), .int "MOST_OWINGS" (100), .glo "BadArgument", .free "super"]
def clsBody : Stmt → List Stmt
  | .ClassDef _ _ _ b _ _ _ _ _ _ _ => b
  | _ => []
abbrev sI : Stmt := (clsBody (top 2)).getD 0 (.Pass ⟨0, 0, 0, 0⟩)
def iD : IniD := ⟨"BadArgument", "__init__", "BadArgument.__init__", defArgs sI, defBody sI, defScope sI⟩
def tf : List He.Defn := [("_law_right", none)]
def ex (K : Frg) : Bool := errB PySem.Challenge.pw_tonnewise_k33_whole_netting.main.file K "BadArgument" "name"
abbrev hk : PySem.W.Hook := hookY 4 fa fn tf ex [iD]
def ob (s : PySem.W.SharedT) : AlY := obsY 4 fa fn tf ex [iD] (HandSHeadRun.getT s)
theorem ob_eq (s : PySem.W.SharedT) : ob s = hk.obs s.abs := obsY_eq (HandSHeadRun.getT_eq s)
abbrev R : PySem.W.OpenRow := PySem.W.OpenLaw.row PySem.Challenge.rw_tonnewise_k33_whole_netting
def loose : List Str := (["TonneError", "BadArgument", "MOST_NAME", "LETTERS", "is_integer", "is_in", "is_name", "is_tuple_of", "are_at_most", "demand", "sorted_dict", "MOST_OWED", "MOST_OWINGS", "is_owing", "are_owings", "nets_of", "nets", "netted", "_law_dice", "_law_roll", "_law_pick", "_law_refused", "_law_own_nets", "_law_by_rule", "_law_right"] : List Str)
theorem run (w : World) : HandSHeadRun.RunEq R (PySem.W.view R.prog [29]) hk ob 3000 loose w := by
  intro os
  kernel_rfl
theorem facts {K : Frg} {h : Heap} {mg : Str → Option Value} {w : World} (X : K.In h) (G : h.Ns mainGlobals mg) (c : He.SaysX fa fn [] tf ex w h K) (ci : [iD].map (fun d => iniObs K d.cls) = [iD].map IniD.val) (base : Heap) (hT : ∀ p ∈ tf.map (He.cT K), LamX.TabB base mg p.1 p.2) : Ft PySem.Challenge.pw_tonnewise_k33_whole_netting K mg base where
  n_abs := He.free_ok X G (c.t.d.fact 20 (f := .free "abs") rfl)
  n_all := He.free_ok X G (c.t.d.fact 21 (f := .free "all") rfl)
  n_bool := He.free_ok X G (c.t.d.fact 22 (f := .free "bool") rfl)
  n_int := He.free_ok X G (c.t.d.fact 23 (f := .free "int") rfl)
  n_isinstance := He.free_ok X G (c.t.d.fact 24 (f := .free "isinstance") rfl)
  n_len := He.free_ok X G (c.t.d.fact 25 (f := .free "len") rfl)
  n_list := He.free_ok X G (c.t.d.fact 26 (f := .free "list") rfl)
  n_max := He.free_ok X G (c.t.d.fact 27 (f := .free "max") rfl)
  n_min := He.free_ok X G (c.t.d.fact 28 (f := .free "min") rfl)
  n_range := He.free_ok X G (c.t.d.fact 29 (f := .free "range") rfl)
  n_sorted := He.free_ok X G (c.t.d.fact 30 (f := .free "sorted") rfl)
  n_str := He.free_ok X G (c.t.d.fact 31 (f := .free "str") rfl)
  n_sum := He.free_ok X G (c.t.d.fact 32 (f := .free "sum") rfl)
  n_tuple := He.free_ok X G (c.t.d.fact 33 (f := .free "tuple") rfl)
  c_LETTERS := He.str_ok X G (c.t.d.fact 34 (f := .str "LETTERS" "abcdefghijklmnopqrstuvwxyz") rfl)
  c_MOST_NAME := He.int_ok X G (c.t.d.fact 35 (f := .int "MOST_NAME" (8)) rfl)
  c_MOST_OWED := He.int_ok X G (c.t.d.fact 36 (f := .int "MOST_OWED" (100000)) rfl)
  c_MOST_OWINGS := He.int_ok X G (c.t.d.fact 37 (f := .int "MOST_OWINGS" (100)) rfl)
  d_is_integer := He.glo_ok X G (c.t.d.fact 0 (f := .glo "is_integer") rfl)
  F_is_integer := c.t.d.def_ 0 (d := D_is_integer) rfl
  d_is_in := He.glo_ok X G (c.t.d.fact 1 (f := .glo "is_in") rfl)
  F_is_in := c.t.d.def_ 1 (d := D_is_in) rfl
  d_is_name := He.glo_ok X G (c.t.d.fact 2 (f := .glo "is_name") rfl)
  F_is_name := c.t.d.def_ 2 (d := D_is_name) rfl
  d_is_tuple_of := He.glo_ok X G (c.t.d.fact 3 (f := .glo "is_tuple_of") rfl)
  F_is_tuple_of := c.t.d.def_ 3 (d := D_is_tuple_of) rfl
  d_are_at_most := He.glo_ok X G (c.t.d.fact 4 (f := .glo "are_at_most") rfl)
  F_are_at_most := c.t.d.def_ 4 (d := D_are_at_most) rfl
  d_demand := He.glo_ok X G (c.t.d.fact 5 (f := .glo "demand") rfl)
  F_demand := c.t.d.def_ 5 (d := D_demand) rfl
  d_sorted_dict := He.glo_ok X G (c.t.d.fact 6 (f := .glo "sorted_dict") rfl)
  F_sorted_dict := c.t.d.def_ 6 (d := D_sorted_dict) rfl
  d_is_owing := He.glo_ok X G (c.t.d.fact 7 (f := .glo "is_owing") rfl)
  F_is_owing := c.t.d.def_ 7 (d := D_is_owing) rfl
  d_are_owings := He.glo_ok X G (c.t.d.fact 8 (f := .glo "are_owings") rfl)
  F_are_owings := c.t.d.def_ 8 (d := D_are_owings) rfl
  d_nets_of := He.glo_ok X G (c.t.d.fact 9 (f := .glo "nets_of") rfl)
  F_nets_of := c.t.d.def_ 9 (d := D_nets_of) rfl
  d_nets := He.glo_ok X G (c.t.d.fact 10 (f := .glo "nets") rfl)
  F_nets := c.t.d.def_ 10 (d := D_nets) rfl
  d_netted := He.glo_ok X G (c.t.d.fact 11 (f := .glo "netted") rfl)
  F_netted := c.t.d.def_ 11 (d := D_netted) rfl
  d__law_dice := He.glo_ok X G (c.t.d.fact 12 (f := .glo "_law_dice") rfl)
  F__law_dice := c.t.d.def_ 12 (d := D__law_dice) rfl
  d__law_roll := He.glo_ok X G (c.t.d.fact 13 (f := .glo "_law_roll") rfl)
  F__law_roll := c.t.d.def_ 13 (d := D__law_roll) rfl
  d__law_pick := He.glo_ok X G (c.t.d.fact 14 (f := .glo "_law_pick") rfl)
  F__law_pick := c.t.d.def_ 14 (d := D__law_pick) rfl
  d__law_refused := He.glo_ok X G (c.t.d.fact 15 (f := .glo "_law_refused") rfl)
  F__law_refused := c.t.d.def_ 15 (d := D__law_refused) rfl
  d__law_own_nets := He.glo_ok X G (c.t.d.fact 16 (f := .glo "_law_own_nets") rfl)
  F__law_own_nets := c.t.d.def_ 16 (d := D__law_own_nets) rfl
  d__law_by_rule := He.glo_ok X G (c.t.d.fact 17 (f := .glo "_law_by_rule") rfl)
  F__law_by_rule := c.t.d.def_ 17 (d := D__law_by_rule) rfl
  d__law_right := He.glo_ok X G (c.t.d.fact 18 (f := .glo "_law_right") rfl)
  F__law_right := c.t.d.def_ 18 (d := D__law_right) rfl
  d_law := He.glo_ok X G (c.t.d.fact 19 (f := .glo "law") rfl)
  F_law := c.t.d.def_ 19 (d := D_law) rfl
  bad := errC_of (P := PySem.Challenge.pw_tonnewise_k33_whole_netting) (d := iD) c.more rfl (List.head_eq_of_cons_eq ci) (He.glo_ok X G (c.t.d.fact 38 (f := .glo "BadArgument") rfl)) (He.free_ok X G (c.t.d.fact 39 (f := .free "super") rfl)) (by kernel_rfl) rfl rfl rfl rfl rfl rfl (by decide +kernel) (by decide +kernel) (by decide +kernel) (by decide +kernel) (by decide +kernel) (fun _ _ _ _ => ⟨rfl, rfl, rfl, _, rfl⟩) (by decide) (by decide) (by decide) (fun _ _ _ _ _ _ _ us hl => match us, hl with | [_, _], _ => rfl)
  t__law_right := hT (He.cT K ("_law_right", none)) (by simp [tf])
theorem holds_of (hG : ∀ ns : List Int, ns.length ≤ 63 → (∀ z ∈ ns, Builtin.Int.intBits z ≤ 1048576) → ∃ as, G_law [.q ns] = .ok (.d (.bool true)) as) : PySem.Challenge.rw_tonnewise_k33_whole_netting.Holds := by
  w_on; o_law
  refine HandSHeadRun.head_any (r := PySem.W.OpenLaw.row PySem.Challenge.rw_tonnewise_k33_whole_netting) (q := PySem.W.view (PySem.W.OpenLaw.row PySem.Challenge.rw_tonnewise_k33_whole_netting).prog [29]) (H := hk) (ob := ob) (M := 3000) (loose := loose) (d := HandSHeadRun.topDef (PySem.W.OpenLaw.row PySem.Challenge.rw_tonnewise_k33_whole_netting).prog 29) (kwd := []) ob_eq
    (by kernel_rfl) (fun s => by kernel_rfl) run (by kernel_rfl) (by kernel_rfl) (by kernel_rfl) (by rfl) (by first | assumption | decide +kernel) (by decide +kernel) ⟨rfl, rfl, rfl, rfl, rfl, by decide +kernel⟩ ?hw ?hc
  case hw => w_witness2
  case hc =>
    refine LamX.walk_ofTsE (l := PySem.Challenge.rw_tonnewise_k33_whole_netting) (n := 63) (k := 9) (x := "script") (CX := fun w => L2.CX PySem.Challenge.pw_tonnewise_k33_whole_netting w) rfl (by decide) (by kernel_rfl) ⟨rfl, by decide, by decide⟩ ?F (fun w H s e s' z => by
      obtain ⟨_, _, _, _, _, _, _, _, _, _, _, _, z⟩ := z
      exact z.elim)
    intro w mg fa h Y G hmg0
    obtain ⟨K, KX, c, ci⟩ := Y
    have hmg : mg ("law" : PySem.Str) = some (.ref fa) := by
      have e : (HandSHeadRun.topDef (PySem.W.OpenLaw.row PySem.Challenge.rw_tonnewise_k33_whole_netting).prog 29).name = ("law" : PySem.Str) := by kernel_rfl
      rw [← e]
      exact hmg0
    have hlaw := He.glo_ok KX G (c.t.d.fact 19 (f := .glo "law") rfl)
    obtain ⟨fd, Fn⟩ := c.t.d.def_ 19 (d := D_law) rfl
    have efa : fa = He.fAd K ("law", none) := by
      have z := hmg.symm.trans hlaw
      cases z
      rfl
    refine ⟨K, KX, fd, tf.map (He.cT K), spD K mg (TT K) 1 G_law, fun p hp => ?_, fun p hp => ?_, fun p hp => ?_, fun s u => ?_, fun H a ns hl hb hT hS => ?_, fun base hb1 hb2 hT => ?_⟩
    · obtain ⟨q, hq, rfl⟩ := List.mem_map.mp hp
      exact c.empty q hq
    · obtain ⟨q, hq, rfl⟩ := List.mem_map.mp hp
      exact c.out q hq
    · obtain ⟨q, hq, rfl⟩ := List.mem_map.mp hp
      exact PySem.W.codeHd_of_K KX (c.hd q hq)
    · exact FunD.bindsA (ps := ["script"]) Fn (fun _ _ _ _ _ _ us hl => match us, hl with | [_], _ => rfl) s [u] rfl
    · refine law_sp hS (fun p hp => ?_) (hG ns hl hb)
      have hp' : p ∈ [((He.cT K ("_law_right", none)).2, ("_law_right.<locals>.<lambda>" : Str))] := hp
      simp only [List.mem_cons, List.not_mem_nil, or_false] at hp'
      rcases hp' with rfl
      exact LamX.TabS.nil (hT _ (List.mem_map.mpr ⟨("_law_right", none), by simp [tf], rfl⟩))
    · obtain ⟨f2, fd2, e1, e2, e3, e4⟩ := (d_law (w := w) (facts KX G c ci base hT)).ex
      have z := hmg.symm.trans e1
      cases z
      have ed : fd2 = fd := by
        obtain ⟨oc, od, dV, kV, doc, pm, an, cdv, ct, osl, q1, q2, _⟩ := e2.ex
        obtain ⟨oc', od', dV', kV', doc', pm', an', cdv', ct', osl', r1, r2, _⟩ := Fn.ex
        rw [efa] at q2
        rw [show (He.fAd K D_law.at_) = He.fAd K ("law", none) from rfl, q2] at r2
        cases r2
        rfl
      rw [← ed]
      exact e4
end Kk33
set_option Elab.async false
set_option linter.all false
set_option maxRecDepth 100000
set_option maxHeartbeats 1000000
namespace Kk33
open PySem PySem.Spec PyProof.Rows L2 DL
def two : List O := [("a", "b", 5), ("b", "c", 5)]
def abc : List Str := ["a", "b", "c"]
theorem nm_two : nm two = abc := by
  have hk : keysI (kvN two) = abc := by decide +kernel
  unfold nm
  rw [hk]
  exact List.Perm.eq_of_pairwise (le := fun a b => leS a b = true) (fun a b _ _ x y => leS_anti x y) (List.pairwise_mergeSort leS_trans leS_total _) (by decide +kernel) (List.mergeSort_perm _ _)
def ac5 : List O := [("a", "c", 5)]
def a5 : List (Str × Int) := [("a", 5)]
def c5 : List (Str × Int) := [("c", 5)]
theorem told_two : toldL two = ac5 := by
  unfold toldL
  rw [nm_two, show giveL (net two) abc = a5 by decide +kernel, show getL (net two) abc = c5 by decide +kernel]
  simp [tp, a5, c5, ac5]
theorem VO_two : VO two := VO_of (by decide) fun o ho => by
  simp only [two, List.mem_cons, List.not_mem_nil, or_false] at ho
  rcases ho with rfl | rfl
  · exact ⟨by decide +kernel, by decide +kernel, by decide +kernel, by decide, by decide⟩
  · exact ⟨by decide +kernel, by decide +kernel, by decide +kernel, by decide, by decide⟩
theorem dEq_self {x : D} (h : x.plain = true) (hd : x.depth ≤ 64) : dEq x x = some (.bool true) := by
  show (if eqB x x = true then some (PyData.bool (PyData.eqv x x)) else none) = _
  rw [if_pos (by unfold eqB; rw [h, decide_eq_true hd]; rfl), PySem.SeqAt.eqv_refl_plain x h]
theorem law_true {ns : List Int} (hl : ns.length ≤ 63) : ∃ as, G_law [.q ns] = .ok (.d (.bool true)) as := by
  have hm : ∃ m : Nat, max (1 : Int) (min 6 (ns.length : Int)) = (m : Int) ∧ m ≤ 6 := ⟨(max (1 : Int) (min 6 (ns.length : Int))).toNat, by omega, by omega⟩
  obtain ⟨m, hm1, hm2⟩ := hm
  obtain ⟨fl, δ', e, h1⟩ := for_run (B := fun _ => False) (T := fun _ _ => False) (tg := fName 1) (gb := (gIf (gNot (gT (gOfR (gCallR 1 G__law_right (gAgF (gOfRO (gCallR 2 G__law_dice (gAgS 0 (gAgD (gVar 1) (gAg0)))))))))) (gRet (gC (.bool false))) (gSkip))) (rangeD 0 m)
    (fun j δ => ∃ (u1 : Option SV), δ = ([some (.q ns), u1] : SS)) [some (.q ns), none] ⟨none, rfl⟩
    (fun j d δ hd ⟨u1, e⟩ => by
      subst e
      have hj : j < m := by
        have := (List.getElem?_eq_some_iff.mp hd).1
        rw [rng_len] at this
        exact this
      rw [rng_at hj] at hd
      cases hd
      obtain ⟨o, h1, h2⟩ := S_dice (i := j) hl
      obtain ⟨o', h3⟩ := S_right h2
      refine ⟨[some (.q ns), some (.d (.int (j : Nat)))], rfl, .nx, [some (.q ns), some (.d (.int (j : Nat)))], ?_, _, rfl⟩
      simp [h1, h3])
  cases fl with
  | nx =>
    rcases h1 with ⟨u1, rfl⟩ | h1
    · refine ⟨[none], ?_⟩
      show toRF 1 (g_law _) = _
      unfold g_law
      rw [gSeq_ap, gFor_ap, show ([SV.q ns].map some ++ List.replicate 1 none : SS) = [some (.q ns), none] from rfl]
      have hr : gRange1 (gOp dMax2 (gC (.int 1)) (gOp dMin2 (gC (.int 6)) (gScrLen 0))) [some (.q ns), none] = .ok (rangeD 0 m) [some (.q ns), none] := by
        have k1 : ∀ a b : Int, dMax2 (.int a) (.int b) = some (.int (max a b)) := fun _ _ => rfl
        refine range_to (m := m) ?_ (by omega)
        simp only [gOp_ap, gC_ap, bind_ok, gScrLen_ap, gScr_ap, List.getElem?_cons_zero, dMin2_ii, k1, opt_some]
        rw [hm1]
      rw [hr, bind_ok, e]
      dsimp only
      have i1 := S_netted VO_two
      rw [told_two] at i1
      have i1' : G_netted [.d (.tuple [.tuple [.str "a", .str "b", .int 5], .tuple [.str "b", .str "c", .int 5]])] = .ok (.d (.tuple [.tuple [.str "a", .str "c", .int 5]])) [none] := i1
      have c1 : dEq (.tuple [.tuple [.str "a", .str "c", .int 5]]) (.tuple [.tuple [.str "a", .str "c", .int 5]]) = some (.bool true) := dEq_self (by simp [PyData.plain, PyData.plainAll]) (by simp [PyData.depth, PyData.depthAll])
      simp [i1', c1]
    · exact h1.elim
  | bk => exact h1.elim
  | ct => exact h1.elim
  | rt v => exact h1.elim
end Kk33
theorem PySem.Challenge.cw_tonnewise_k33_whole_netting_holds : PySem.Challenge.rw_tonnewise_k33_whole_netting.Holds :=
  Kk33.holds_of fun _ h _ => Kk33.law_true h
