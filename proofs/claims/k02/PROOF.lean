import PyProof.Rows.All
import PySem.Challenge.RW_outvoted_k02_names
import Wide.All
import OpenK.AllK
import Wide.FinOn
import HandS.ForMost
import HandS.More
import HandS.WordsExc
import HandS.Defaults
import HandS.HeadHook1
import HandS.IsInst
import HandS.Deep
import HandS.Wide
import HandS.CallSlots
import HandS.TupAny
import HandS.TupMul
import HandS.Zip
import HandS.Iter
import HandS.MakeKwOnly
import HandS.HeadHook2
import HandS.HeadEnd
import HandS.Head0
import HandS.Head1
import HandS.Head2
set_option Elab.async false
set_option linter.all false
set_option maxRecDepth 100000
set_option maxHeartbeats 4000000
/-! DL, part a: data values, memory of the things that change, what a value of the layer stands for -/
namespace DL
open PySem PySem.Spec PyProof.Rows L2

/-- a value with all that hangs on it; obj i: the i-th thing that may change -/
inductive D where
  | non | bl (b : Bool) | int (i : Int) | str (s : Str) | ty (n : String) | cls (c : Str)
  | lst (xs : List D) | tup (xs : List D) | dct (ks : List Key) (vs : List D) | ins (c : Str) (ns : List Str) (vs : List D) | obj (i : Nat) | scr (ns : List Int)
  deriving Inhabited
inductive MO where
  | dead | lst (xs : List D) | dct (ks : List Key) (vs : List D) | ins (c : Str) (ns : List Str) (vs : List D)
  deriving Inhabited
abbrev Mem := List MO

structure Wd where
  H : Hp
  ad : List Addr
  bad : Addr → Prop

def KTp (K : PySem.W.Frag) (a : Addr) (xs : List V) : Prop :=
  ∃ (o : Obj) (its : Array Value) (n : Nat), K.lookup a = some o ∧ o.cls = .type "tuple" ∧ o.data = .seq its n ∧ its.size ≤ sizeLine ∧ Vals xs its.toList
def KLs (K : PySem.W.Frag) (a : Addr) (xs : List V) : Prop :=
  ∃ (o : Obj) (its : Array Value) (n : Nat), K.lookup a = some o ∧ o.cls = .type "list" ∧ o.dict = none ∧ o.data = .seq its n ∧ its.size ≤ sizeLine ∧ Vals xs its.toList
def LsAt (W : Wd) (a : Addr) (xs : List V) : Prop := W.H a = some (.lst xs) ∧ ¬ W.bad a
def TpAt (K : PySem.W.Frag) (W : Wd) (a : Addr) (xs : List V) : Prop := (Rd W.H a (.tup xs) ∧ ¬ W.bad a) ∨ KTp K a xs
theorem LsAt.sq {K : PySem.W.Frag} {W : Wd} {a : Addr} {xs : List V} (h : LsAt W a xs) : SqL K W.H a xs := SqL.of h.1
theorem TpAt.sq {K : PySem.W.Frag} {W : Wd} {a : Addr} {xs : List V} (h : TpAt K W a xs) : SqT K W.H a xs := h.imp (fun z => z.1) id

mutual
def Rp (K : PySem.W.Frag) (W : Wd) : D → V → Prop
  | .non, v => v = .non
  | .bl b, v => v = .bl b
  | .int i, v => v = .int i
  | .str s, v => v = .str s
  | .ty n, v => v = .ty n
  | .cls c, v => v = .ref (He.ga K c)
  | .obj i, v => ∃ a, v = .ref a ∧ W.ad[i]? = some a
  | .scr ns, v => ∃ a, v = .ref a ∧ ((Rd W.H a (.lst (ns.map V.int)) ∧ ¬ W.bad a) ∨ KLs K a (ns.map V.int))
  | .lst ds, v => ∃ a vs, v = .ref a ∧ LsAt W a vs ∧ RpL K W ds vs
  | .tup ds, v => ∃ a vs, v = .ref a ∧ TpAt K W a vs ∧ RpL K W ds vs
  | .dct ks ds, v => ∃ a es, v = .ref a ∧ W.H a = some (.dK es) ∧ ¬ W.bad a ∧ es.map (·.1) = ks ∧ RpL K W ds (es.map (·.2))
  | .ins c ns ds, v => ∃ a dx es, v = .ref a ∧ W.H a = some (.ins (He.ga K c) dx es) ∧ ¬ W.bad a ∧ es.map (·.1) = ns ∧ RpL K W ds (es.map (·.2))
def RpL (K : PySem.W.Frag) (W : Wd) : List D → List V → Prop
  | [], vs => vs = []
  | d :: ds, vs => ∃ v r, vs = v :: r ∧ Rp K W d v ∧ RpL K W ds r
end

section
variable {K : PySem.W.Frag} {W W' : Wd}
/-- nothing that is kept is changed -/
structure Le (W W' : Wd) : Prop where
  pre : ∃ e, W'.ad = W.ad ++ e
  keep : ∀ a o, W.H a = some o → ¬ W.bad a → W'.H a = some o ∧ ¬ W'.bad a
theorem Le.refl (W : Wd) : Le W W := ⟨⟨[], by simp⟩, fun _ _ h n => ⟨h, n⟩⟩
theorem Le.trans {W W1 W2 : Wd} (a : Le W W1) (b : Le W1 W2) : Le W W2 := by
  obtain ⟨e1, h1⟩ := a.pre
  obtain ⟨e2, h2⟩ := b.pre
  exact ⟨⟨e1 ++ e2, by rw [h2, h1, List.append_assoc]⟩, fun c o h n => let ⟨h', n'⟩ := a.keep c o h n; b.keep c o h' n'⟩
theorem Le.ix (l : Le W W') {i : Nat} {a : Addr} (h : W.ad[i]? = some a) : W'.ad[i]? = some a := by
  obtain ⟨e, h2⟩ := l.pre
  rw [h2, List.getElem?_append_left (List.getElem?_eq_some_iff.mp h).1]
  exact h
theorem Le.rd (l : Le W W') {a : Addr} {u : HO} (h : Rd W.H a u) (n : ¬ W.bad a) : Rd W'.H a u ∧ ¬ W'.bad a := by
  rcases h with h | ⟨o, h⟩
  · obtain ⟨h', n'⟩ := l.keep _ _ h n
    exact ⟨.inl h', n'⟩
  · obtain ⟨h', n'⟩ := l.keep _ _ h n
    exact ⟨.inr ⟨o, h'⟩, n'⟩
theorem LsAt.le (l : Le W W') {a : Addr} {xs : List V} (h : LsAt W a xs) : LsAt W' a xs := l.keep _ _ h.1 h.2
theorem TpAt.le (l : Le W W') {a : Addr} {xs : List V} (h : TpAt K W a xs) : TpAt K W' a xs := h.imp (fun z => l.rd z.1 z.2) id
mutual
theorem Rp.le (l : Le W W') : ∀ (d : D) {v : V}, Rp K W d v → Rp K W' d v
  | .non, _, h => by simpa [Rp] using h
  | .bl _, _, h => by simpa [Rp] using h
  | .int _, _, h => by simpa [Rp] using h
  | .str _, _, h => by simpa [Rp] using h
  | .ty _, _, h => by simpa [Rp] using h
  | .cls _, _, h => by simpa [Rp] using h
  | .obj i, _, h => by
    obtain ⟨a, e, h⟩ := (by simpa only [Rp] using h : ∃ a, _ = V.ref a ∧ W.ad[i]? = some a)
    simp only [Rp]
    exact ⟨a, e, l.ix h⟩
  | .scr ns, _, h => by
    simp only [Rp] at h ⊢
    obtain ⟨a, e, h1⟩ := h
    exact ⟨a, e, h1.imp (fun z => l.rd z.1 z.2) id⟩
  | .lst ds, _, h => by
    simp only [Rp] at h ⊢
    obtain ⟨a, vs, e, h1, h2⟩ := h
    exact ⟨a, vs, e, h1.le l, RpL.le l ds h2⟩
  | .tup ds, _, h => by
    simp only [Rp] at h ⊢
    obtain ⟨a, vs, e, h1, h2⟩ := h
    exact ⟨a, vs, e, h1.le l, RpL.le l ds h2⟩
  | .dct ks ds, _, h => by
    simp only [Rp] at h ⊢
    obtain ⟨a, es, e, h1, h2, h3, h4⟩ := h
    obtain ⟨g1, g2⟩ := l.keep _ _ h1 h2
    exact ⟨a, es, e, g1, g2, h3, RpL.le l ds h4⟩
  | .ins c ns ds, _, h => by
    simp only [Rp] at h ⊢
    obtain ⟨a, dx, es, e, h1, h2, h3, h4⟩ := h
    obtain ⟨g1, g2⟩ := l.keep _ _ h1 h2
    exact ⟨a, dx, es, e, g1, g2, h3, RpL.le l ds h4⟩
theorem RpL.le (l : Le W W') : ∀ (ds : List D) {vs : List V}, RpL K W ds vs → RpL K W' ds vs
  | [], _, h => by simpa [RpL] using h
  | d :: ds, _, h => by
    simp only [RpL] at h ⊢
    obtain ⟨v, r, e, h1, h2⟩ := h
    exact ⟨v, r, e, Rp.le l d h1, RpL.le l ds h2⟩
end
theorem RpL.nil : RpL K W [] [] := by simp [RpL]
theorem RpL.nilI {vs : List V} (h : RpL K W [] vs) : vs = [] := by simpa only [RpL] using h
theorem RpL.consI {d : D} {ds : List D} {vs : List V} (h : RpL K W (d :: ds) vs) : ∃ v r, vs = v :: r ∧ Rp K W d v ∧ RpL K W ds r := by simpa only [RpL] using h
theorem RpL.cons {d : D} {ds : List D} {v : V} {vs : List V} (h : Rp K W d v) (r : RpL K W ds vs) : RpL K W (d :: ds) (v :: vs) := by
  simp only [RpL]
  exact ⟨v, vs, rfl, h, r⟩
theorem RpL.len : ∀ {ds : List D} {vs : List V}, RpL K W ds vs → vs.length = ds.length
  | [], _, h => by
    have e := h.nilI
    rw [e]
    rfl
  | _ :: ds, _, h => by
    simp only [RpL] at h
    obtain ⟨v, r, e, _, h2⟩ := h
    rw [e, List.length_cons, List.length_cons, h2.len]
theorem RpL.get : ∀ {ds : List D} {vs : List V} {i : Nat} {d : D}, RpL K W ds vs → ds[i]? = some d → ∃ v, vs[i]? = some v ∧ Rp K W d v
  | [], _, _, _, _, e => by simp at e
  | x :: ds, _, 0, d, h, e => by
    simp only [RpL] at h
    obtain ⟨v, r, q, h1, h2⟩ := h
    simp at e
    subst e
    subst q
    exact ⟨v, rfl, h1⟩
  | x :: ds, _, i + 1, d, h, e => by
    simp only [RpL] at h
    obtain ⟨v, r, q, h1, h2⟩ := h
    subst q
    obtain ⟨u, h3, h4⟩ := RpL.get (i := i) h2 (by simpa using e)
    exact ⟨u, by simpa using h3, h4⟩
theorem RpL.get' : ∀ {ds : List D} {vs : List V} {i : Nat} {v : V}, RpL K W ds vs → vs[i]? = some v → ∃ d, ds[i]? = some d ∧ Rp K W d v
  | [], _, _, _, h, e => by
    have q := h.nilI
    rw [q] at e
    simp at e
  | x :: ds, _, 0, v, h, e => by
    simp only [RpL] at h
    obtain ⟨w, r, q, h1, h2⟩ := h
    subst q
    simp at e
    subst e
    exact ⟨x, rfl, h1⟩
  | x :: ds, _, i + 1, v, h, e => by
    simp only [RpL] at h
    obtain ⟨w, r, q, h1, h2⟩ := h
    subst q
    obtain ⟨u, h3, h4⟩ := RpL.get' (i := i) h2 (by simpa using e)
    exact ⟨u, by simpa using h3, h4⟩
theorem RpL.append : ∀ {ds es : List D} {vs ws : List V}, RpL K W ds vs → RpL K W es ws → RpL K W (ds ++ es) (vs ++ ws)
  | [], _, _, _, h, h' => by
    have q := h.nilI
    rw [q]
    exact h'
  | x :: ds, _, _, _, h, h' => by
    simp only [RpL] at h
    obtain ⟨w, r, q, h1, h2⟩ := h
    subst q
    exact RpL.cons h1 (h2.append h')
theorem RpL.take : ∀ {ds : List D} {vs : List V} (n : Nat), RpL K W ds vs → RpL K W (ds.take n) (vs.take n)
  | _, _, 0, _ => by simp [RpL]
  | [], _, _ + 1, h => by
    have q := h.nilI
    rw [q]
    simp [RpL]
  | x :: ds, _, n + 1, h => by
    simp only [RpL] at h
    obtain ⟨w, r, q, h1, h2⟩ := h
    subst q
    exact RpL.cons h1 (h2.take n)
theorem RpL.drop : ∀ {ds : List D} {vs : List V} (n : Nat), RpL K W ds vs → RpL K W (ds.drop n) (vs.drop n)
  | _, _, 0, h => h
  | [], _, _ + 1, h => by
    have q := h.nilI
    rw [q]
    simp [RpL]
  | x :: ds, _, n + 1, h => by
    simp only [RpL] at h
    obtain ⟨w, r, q, h1, h2⟩ := h
    subst q
    exact h2.drop n
theorem RpL.set {d : D} {v : V} (hd : Rp K W d v) : ∀ {ds : List D} {vs : List V} (i : Nat), RpL K W ds vs → RpL K W (ds.set i d) (vs.set i v)
  | [], _, _, h => by
    have q := h.nilI
    rw [q]
    simp [RpL]
  | x :: ds, _, 0, h => by
    simp only [RpL] at h
    obtain ⟨w, r, q, h1, h2⟩ := h
    subst q
    exact RpL.cons hd h2
  | x :: ds, _, i + 1, h => by
    simp only [RpL] at h
    obtain ⟨w, r, q, h1, h2⟩ := h
    subst q
    exact RpL.cons h1 (h2.set hd i)
end

/-! ### the memory -/
def lvI (M : Mem) (i : Nat) : Prop := ∃ o, M[i]? = some o ∧ o ≠ .dead
def badOf (hid : Addr → Prop) (M : Mem) (ad : List Addr) (a : Addr) : Prop := hid a ∨ ∃ i, lvI M i ∧ ad[i]? = some a
abbrev wd (hid : Addr → Prop) (M : Mem) (ad : List Addr) (H : Hp) : Wd := ⟨H, ad, badOf hid M ad⟩
def MOk (K : PySem.W.Frag) (W : Wd) (a : Addr) : MO → Prop
  | .dead => True
  | .lst ds => ∃ vs, W.H a = some (.lst vs) ∧ RpL K W ds vs
  | .dct ks ds => ∃ es, W.H a = some (.dK es) ∧ es.map (·.1) = ks ∧ RpL K W ds (es.map (·.2))
  | .ins c ns ds => ∃ dx es, W.H a = some (.ins (He.ga K c) dx es) ∧ es.map (·.1) = ns ∧ RpL K W ds (es.map (·.2))
structure Ok (K : PySem.W.Frag) (hid : Addr → Prop) (M : Mem) (ad : List Addr) (H : Hp) : Prop where
  len : ad.length = M.length
  inj : ∀ (i j : Nat) (a : Addr), lvI M i → lvI M j → ad[i]? = some a → ad[j]? = some a → i = j
  nh : ∀ (i : Nat) (a : Addr), lvI M i → ad[i]? = some a → ¬ hid a
  ob : ∀ (i : Nat) (o : MO) (a : Addr), M[i]? = some o → ad[i]? = some a → MOk K (wd hid M ad H) a o
  hh : ∀ a, hid a → H a ≠ none
/-- what a part of a run leaves -/
structure Fr (hid : Addr → Prop) (M : Mem) (ad : List Addr) (H : Hp) (M' : Mem) (ad' : List Addr) (H' : Hp) : Prop where
  le : Le (wd hid M ad H) (wd hid M' ad' H')
  hidk : ∀ a, hid a → H' a = H a
  dom : ∀ a, H a ≠ none → H' a ≠ none
section
variable {K : PySem.W.Frag} {hid : Addr → Prop} {M M1 M2 : Mem} {ad ad1 ad2 : List Addr} {H H1 H2 : Hp}
theorem Fr.refl : Fr hid M ad H M ad H := ⟨Le.refl _, fun _ _ => rfl, fun _ h => h⟩
theorem Fr.trans (a : Fr hid M ad H M1 ad1 H1) (b : Fr hid M1 ad1 H1 M2 ad2 H2) : Fr hid M ad H M2 ad2 H2 :=
  ⟨a.le.trans b.le, fun c h => (b.hidk c h).trans (a.hidk c h), fun c h => b.dom c (a.dom c h)⟩
theorem Fr.none (a : Fr hid M ad H M1 ad1 H1) {p : Addr} (h : H1 p = Option.none) : H p = Option.none := by
  cases e : H p with
  | none => rfl
  | some o => exact absurd h (a.dom p (by rw [e]; simp))
/-- a new thing is laid that nothing knows -/
theorem Fr.new {p : Addr} {u : HO} (hp : H p = Option.none) (nl : ¬ badOf hid M ad p) : Fr hid M ad H M ad (upd H p u) := by
  refine ⟨⟨⟨[], by simp⟩, fun a o h n => ⟨?_, n⟩⟩, fun a h => ?_, fun a h => ?_⟩
  · show upd H p u a = some o
    rw [upd_ne (ne_of_none h hp)]
    exact h
  · have ne : a ≠ p := fun e => nl (.inl (e ▸ h))
    rw [upd_ne ne]
  · by_cases e : a = p
    · subst e
      rw [upd_same]
      simp
    · rw [upd_ne e]
      exact h
/-- live things are tracked -/
theorem Ok.some (k : Ok K hid M ad H) {i : Nat} {a : Addr} (h : lvI M i) (e : ad[i]? = some a) : ∃ o, H a = Option.some o := by
  obtain ⟨o, h1, h2⟩ := h
  have q := k.ob i o a h1 e
  cases o with
  | dead => exact absurd rfl h2
  | lst ds =>
    obtain ⟨vs, z, _⟩ := q
    exact ⟨_, z⟩
  | dct ks ds =>
    obtain ⟨es, z, _⟩ := q
    exact ⟨_, z⟩
  | ins c ns ds =>
    obtain ⟨dx, es, z, _⟩ := q
    exact ⟨_, z⟩
theorem Ok.fresh (k : Ok K hid M ad H) {p : Addr} (hp : H p = Option.none) : ¬ badOf hid M ad p := by
  rintro (h | ⟨i, h1, h2⟩)
  · exact k.hh p h hp
  · obtain ⟨o, z⟩ := k.some h1 h2
    rw [z] at hp
    cases hp
theorem MOk.le {W W' : Wd} (l : Le W W') {a : Addr} {o : MO} (e : W'.H a = W.H a) (h : MOk K W a o) : MOk K W' a o := by
  cases o with
  | dead => trivial
  | lst ds =>
    obtain ⟨vs, h1, h2⟩ := h
    exact ⟨vs, e.trans h1, RpL.le l ds h2⟩
  | dct ks ds =>
    obtain ⟨es, h1, h2, h3⟩ := h
    exact ⟨es, e.trans h1, h2, RpL.le l ds h3⟩
  | ins c ns ds =>
    obtain ⟨dx, es, h1, h2, h3⟩ := h
    exact ⟨dx, es, e.trans h1, h2, RpL.le l ds h3⟩
theorem Ok.new (k : Ok K hid M ad H) {p : Addr} {u : HO} (hp : H p = Option.none) : Ok K hid M ad (upd H p u) := by
  have f : Fr hid M ad H M ad (upd H p u) := Fr.new hp (k.fresh hp)
  refine ⟨k.len, k.inj, k.nh, fun i o a h1 h2 => ?_, fun a h => f.dom a (k.hh a h)⟩
  by_cases hd : o = .dead
  · subst hd
    trivial
  · obtain ⟨u', z⟩ := k.some ⟨o, h1, hd⟩ h2
    exact MOk.le f.le (upd_ne (ne_of_none z hp)) (k.ob i o a h1 h2)
/-- fewer places are hidden -/
theorem Le.unhid {hid' : Addr → Prop} (h : ∀ a, hid a → hid' a) : Le (wd hid' M ad H) (wd hid M ad H) :=
  ⟨⟨[], by simp⟩, fun a o e n => ⟨e, fun z => n (z.elim (fun q => .inl (h a q)) .inr)⟩⟩
theorem Ok.unhid {hid' : Addr → Prop} (k : Ok K hid' M ad H) (h : ∀ a, hid a → hid' a) : Ok K hid M ad H :=
  ⟨k.len, k.inj, fun i a h1 h2 z => k.nh i a h1 h2 (h a z), fun i o a h1 h2 => MOk.le (Le.unhid h) rfl (k.ob i o a h1 h2), fun a z => k.hh a (h a z)⟩
/-- a new place is hidden -/
def hidA (hid : Addr → Prop) (p : Addr) : Addr → Prop := fun a => hid a ∨ a = p
theorem Le.hide {p : Addr} {u : HO} (hp : H p = Option.none) : Le (wd hid M ad H) (wd (hidA hid p) M ad (upd H p u)) :=
  ⟨⟨[], by simp⟩, fun a o e n => ⟨by show upd H p u a = some o; rw [upd_ne (ne_of_none e hp)]; exact e, by
    rintro ((q | q) | q)
    · exact n (.inl q)
    · subst q
      have e' : H a = some o := e
      rw [hp] at e'
      cases e'
    · exact n (.inr q)⟩⟩
theorem Ok.hide (k : Ok K hid M ad H) {p : Addr} {u : HO} (hp : H p = Option.none) : Ok K (hidA hid p) M ad (upd H p u) := by
  refine ⟨k.len, k.inj, fun i a h1 h2 => ?_, fun i o a h1 h2 => ?_, fun a h => ?_⟩
  · rintro (q | q)
    · exact k.nh i a h1 h2 q
    · subst q
      obtain ⟨o, z⟩ := k.some h1 h2
      rw [hp] at z
      cases z
  · by_cases hd : o = .dead
    · subst hd
      trivial
    · obtain ⟨u', z⟩ := k.some ⟨o, h1, hd⟩ h2
      exact MOk.le (Le.hide hp) (upd_ne (ne_of_none z hp)) (k.ob i o a h1 h2)
  · rcases h with h | h
    · by_cases e : a = p
      · subst e
        rw [upd_same]
        simp
      · rw [upd_ne e]
        exact k.hh a h
    · subst h
      rw [upd_same]
      simp
/-- a hidden place is written -/
theorem Le.hidSet {p : Addr} {u : HO} (hp : hid p) : Le (wd hid M ad H) (wd hid M ad (upd H p u)) :=
  ⟨⟨[], by simp⟩, fun a o e n => ⟨by show upd H p u a = some o; rw [upd_ne (fun q : a = p => n (.inl (show hid a by rw [q]; exact hp)))]; exact e, n⟩⟩
theorem Ok.hidSet (k : Ok K hid M ad H) {p : Addr} {u : HO} (hp : hid p) : Ok K hid M ad (upd H p u) := by
  refine ⟨k.len, k.inj, k.nh, fun i o a h1 h2 => ?_, fun a h => ?_⟩
  · by_cases hd : o = .dead
    · subst hd
      trivial
    · have ne : a ≠ p := fun q => k.nh i a ⟨o, h1, hd⟩ h2 (q ▸ hp)
      exact MOk.le (Le.hidSet hp) (upd_ne ne) (k.ob i o a h1 h2)
  · by_cases e : a = p
    · subst e
      rw [upd_same]
      simp
    · rw [upd_ne e]
      exact k.hh a h
end
end DL

set_option maxHeartbeats 4000000
/-! DL, part b: what a piece of the text yields over data; the tie to the layer's readings -/
namespace DL
open PySem PySem.Spec PyProof.Rows L2

inductive Res (α : Type) where
  | ok (a : α) (M : Mem) | exc (c : Str) (ns : List Str) (ds : List D) (M : Mem) | bad
def Res.bind {α β : Type} (r : Res α) (f : α → Mem → Res β) : Res β := match r with
  | .ok a M => f a M
  | .exc c ns ds M => .exc c ns ds M
  | .bad => .bad
/-- the first that is no fault -/
def Res.els {α : Type} (r u : Res α) : Res α := match r with
  | .bad => u
  | .ok a M => .ok a M
  | .exc c ns ds M => .exc c ns ds M
inductive Sl where
  | no | val (d : D) | own (o : MO)
  deriving Inhabited
abbrev Rho := List Sl
abbrev SE := Rho → Mem → Res D
abbrev SA := Rho → Mem → Res (List D)
abbrev ST := Rho → Mem → Res Bool

structure RpS (K : PySem.W.Frag) (hid : Addr → Prop) (M : Mem) (ad : List Addr) (H : Hp) (ρ : Rho) (σ : L2.St) : Prop where
  len : σ.length = ρ.length
  val : ∀ (i : Nat) (d : D), ρ[i]? = some (.val d) → ∃ v, σ[i]? = some (some v) ∧ Rp K (wd hid M ad H) d v
  own : ∀ (i : Nat) (o : MO), ρ[i]? = some (.own o) → ∃ a, σ[i]? = some (some (.ref a)) ∧ hid a ∧ MOk K (wd hid M ad H) a o
  inj : ∀ (i j : Nat) (o u : MO) (a : Addr), ρ[i]? = some (.own o) → ρ[j]? = some (.own u) → σ[i]? = some (some (.ref a)) → σ[j]? = some (some (.ref a)) → i = j

/-- what is wanted of an error that leaves -/
def PostX (K : PySem.W.Frag) (hid : Addr → Prop) (M : Mem) (ad : List Addr) (H : Hp) (E : XK) (c : Str) (ns : List Str) (ds : List D) (M' : Mem) : Prop :=
  ∀ dx es ad' H', Fr hid M ad H M' ad' H' → Ok K hid M' ad' H' → es.map (·.1) = ns → H' dx = some (.xd es) → RpL K (wd hid M' ad' H') ds (es.map (·.2)) → E (.ref (He.ga K c)) (some dx) H'
/-- a wish about an outcome, that grows with what has been done -/
structure Pk (K : PySem.W.Frag) (hid : Addr → Prop) (E : XK) (β : Type) where
  P : Mem → List Addr → Hp → Res β → Prop
  fr : ∀ {M ad H M1 ad1 H1 r}, Fr hid M ad H M1 ad1 H1 → P M ad H r → P M1 ad1 H1 r
  ex : ∀ {M ad H c ns ds M'}, P M ad H (.exc c ns ds M') → PostX K hid M ad H E c ns ds M'
  no : ∀ {M ad H}, P M ad H .bad → False
section
variable {K : PySem.W.Frag} {hid : Addr → Prop} {M M1 : Mem} {ad ad1 : List Addr} {H H1 : Hp} {σ : L2.St} {ρ : Rho} {E : XK} {W : WX}
theorem RpS.fr (f : Fr hid M ad H M1 ad1 H1) (r : RpS K hid M ad H ρ σ) : RpS K hid M1 ad1 H1 ρ σ :=
  ⟨r.len, fun i d e => let ⟨v, h1, h2⟩ := r.val i d e; ⟨v, h1, Rp.le f.le d h2⟩, fun i o e => let ⟨a, h1, h2, h3⟩ := r.own i o e; ⟨a, h1, h2, MOk.le f.le (f.hidk a h2) h3⟩, r.inj⟩
theorem PostX.fr {c : Str} {ns : List Str} {ds : List D} {M' : Mem} (f : Fr hid M ad H M1 ad1 H1) (h : PostX K hid M ad H E c ns ds M') : PostX K hid M1 ad1 H1 E c ns ds M' :=
  fun dx es ad' H' g k e1 e2 e3 => h dx es ad' H' (f.trans g) k e1 e2 e3
end
/-- of a value; of a test; of several values; of a value that is new and known to nobody -/
def pV (K : PySem.W.Frag) (hid : Addr → Prop) (Q : VK) (E : XK) : Pk K hid E D where
  P M ad H r := match r with
    | .ok d M' => ∀ v ad' H', Fr hid M ad H M' ad' H' → Ok K hid M' ad' H' → Rp K (wd hid M' ad' H') d v → Q v H'
    | .exc c ns ds M' => PostX K hid M ad H E c ns ds M'
    | .bad => False
  fr {M ad H M1 ad1 H1 r} f h := match r, h with
    | .ok d M', h => fun v ad' H' g k rp => h v ad' H' (f.trans g) k rp
    | .exc _ _ _ _, h => PostX.fr f h
    | .bad, h => h
  ex h := h
  no h := h
def pB (K : PySem.W.Frag) (hid : Addr → Prop) (Q : Bool → Hp → Prop) (E : XK) : Pk K hid E Bool where
  P M ad H r := match r with
    | .ok b M' => ∀ ad' H', Fr hid M ad H M' ad' H' → Ok K hid M' ad' H' → Q b H'
    | .exc c ns ds M' => PostX K hid M ad H E c ns ds M'
    | .bad => False
  fr {M ad H M1 ad1 H1 r} f h := match r, h with
    | .ok d M', h => fun ad' H' g k => h ad' H' (f.trans g) k
    | .exc _ _ _ _, h => PostX.fr f h
    | .bad, h => h
  ex h := h
  no h := h
def pA (K : PySem.W.Frag) (hid : Addr → Prop) (Q : List V → Hp → Prop) (E : XK) : Pk K hid E (List D) where
  P M ad H r := match r with
    | .ok ds M' => ∀ vs ad' H', Fr hid M ad H M' ad' H' → Ok K hid M' ad' H' → RpL K (wd hid M' ad' H') ds vs → Q vs H'
    | .exc c ns ds M' => PostX K hid M ad H E c ns ds M'
    | .bad => False
  fr {M ad H M1 ad1 H1 r} f h := match r, h with
    | .ok d M', h => fun v ad' H' g k rp => h v ad' H' (f.trans g) k rp
    | .exc _ _ _ _, h => PostX.fr f h
    | .bad, h => h
  ex h := h
  no h := h
/-- the thing that a new value is -/
def moOf : D → Option MO
  | .lst ds => some (.lst ds)
  | .dct ks vs => some (.dct ks vs)
  | .ins c ns vs => some (.ins c ns vs)
  | _ => none
def pF (K : PySem.W.Frag) (hid : Addr → Prop) (Q : VK) (E : XK) : Pk K hid E D where
  P M ad H r := match r with
    | .ok d M' => ∀ a o ad' H', moOf d = some o → H a = none → Fr hid M ad H M' ad' H' → Ok K (hidA hid a) M' ad' H' → MOk K (wd (hidA hid a) M' ad' H') a o → Q (.ref a) H'
    | .exc c ns ds M' => PostX K hid M ad H E c ns ds M'
    | .bad => False
  fr {M ad H M1 ad1 H1 r} f h := match r, h with
    | .ok d M', h => fun a o ad' H' e0 e1 g k rp => h a o ad' H' e0 (f.none e1) (f.trans g) k rp
    | .exc _ _ _ _, h => PostX.fr f h
    | .bad, h => h
  ex h := h
  no h := h

/-! ### the ties -/
abbrev wx (W : WX) (σ : L2.St) : XK := fun c d H' => W c d σ H'
def Snd (K : PySem.W.Frag) (W : WX) (te : TE) (m : SE) : Prop := ∀ (hid : Addr → Prop) (σ : L2.St) (ρ : Rho) (M : Mem) (ad : List Addr) (H : Hp) (Q : VK), Ok K hid M ad H → RpS K hid M ad H ρ σ →
  (pV K hid Q (wx W σ)).P M ad H (m ρ M) → te σ H Q
def SndF (K : PySem.W.Frag) (W : WX) (te : TE) (m : SE) : Prop := ∀ (hid : Addr → Prop) (σ : L2.St) (ρ : Rho) (M : Mem) (ad : List Addr) (H : Hp) (Q : VK), Ok K hid M ad H → RpS K hid M ad H ρ σ →
  (pF K hid Q (wx W σ)).P M ad H (m ρ M) → te σ H Q
def SndT (K : PySem.W.Frag) (W : WX) (tt : TT) (m : ST) : Prop := ∀ (hid : Addr → Prop) (σ : L2.St) (ρ : Rho) (M : Mem) (ad : List Addr) (H : Hp) (Q : Bool → Hp → Prop), Ok K hid M ad H → RpS K hid M ad H ρ σ →
  (pB K hid Q (wx W σ)).P M ad H (m ρ M) → tt σ H Q
def SndA (K : PySem.W.Frag) (W : WX) (ta : TA) (m : SA) : Prop := ∀ (hid : Addr → Prop) (σ : L2.St) (ρ : Rho) (M : Mem) (ad : List Addr) (H : Hp) (Q : List V → Hp → Prop), Ok K hid M ad H → RpS K hid M ad H ρ σ →
  (pA K hid Q (wx W σ)).P M ad H (m ρ M) → ta σ H Q

section
variable {K : PySem.W.Frag} {hid : Addr → Prop} {M M1 : Mem} {ad ad1 : List Addr} {H H1 : Hp} {σ : L2.St} {ρ : Rho} {Q : VK} {W : WX} {β : Type}
/-- one part is done, the rest follows -/
theorem Snd.step {te : TE} {m : SE} (s : Snd K W te m) (k : Ok K hid M ad H) (r : RpS K hid M ad H ρ σ) (p : Pk K hid (wx W σ) β) {f : D → Mem → Res β} (h : p.P M ad H ((m ρ M).bind f)) {R : VK}
    (nx : ∀ d M1 x ad1 H1, Fr hid M ad H M1 ad1 H1 → Ok K hid M1 ad1 H1 → Rp K (wd hid M1 ad1 H1) d x → RpS K hid M1 ad1 H1 ρ σ → p.P M1 ad1 H1 (f d M1) → R x H1) : te σ H R := by
  refine s hid σ ρ M ad H R k r ?_
  cases e : m ρ M with
  | ok d M1 =>
    rw [e] at h
    exact fun v ad1 H1 f1 k1 rp => nx d M1 v ad1 H1 f1 k1 rp (r.fr f1) (p.fr f1 h)
  | exc c ns ds M1 =>
    rw [e] at h
    exact p.ex h
  | bad =>
    rw [e] at h
    exact p.no h
theorem SndT.step {tt : TT} {m : ST} (s : SndT K W tt m) (k : Ok K hid M ad H) (r : RpS K hid M ad H ρ σ) (p : Pk K hid (wx W σ) β) {f : Bool → Mem → Res β} (h : p.P M ad H ((m ρ M).bind f)) {R : Bool → Hp → Prop}
    (nx : ∀ b M1 ad1 H1, Fr hid M ad H M1 ad1 H1 → Ok K hid M1 ad1 H1 → RpS K hid M1 ad1 H1 ρ σ → p.P M1 ad1 H1 (f b M1) → R b H1) : tt σ H R := by
  refine s hid σ ρ M ad H R k r ?_
  cases e : m ρ M with
  | ok d M1 =>
    rw [e] at h
    exact fun ad1 H1 f1 k1 => nx d M1 ad1 H1 f1 k1 (r.fr f1) (p.fr f1 h)
  | exc c ns ds M1 =>
    rw [e] at h
    exact p.ex h
  | bad =>
    rw [e] at h
    exact p.no h
theorem SndA.step {ta : TA} {m : SA} (s : SndA K W ta m) (k : Ok K hid M ad H) (r : RpS K hid M ad H ρ σ) (p : Pk K hid (wx W σ) β) {f : List D → Mem → Res β} (h : p.P M ad H ((m ρ M).bind f)) {R : List V → Hp → Prop}
    (nx : ∀ ds M1 xs ad1 H1, Fr hid M ad H M1 ad1 H1 → Ok K hid M1 ad1 H1 → RpL K (wd hid M1 ad1 H1) ds xs → RpS K hid M1 ad1 H1 ρ σ → p.P M1 ad1 H1 (f ds M1) → R xs H1) : ta σ H R := by
  refine s hid σ ρ M ad H R k r ?_
  cases e : m ρ M with
  | ok d M1 =>
    rw [e] at h
    exact fun v ad1 H1 f1 k1 rp => nx d M1 v ad1 H1 f1 k1 rp (r.fr f1) (p.fr f1 h)
  | exc c ns ds M1 =>
    rw [e] at h
    exact p.ex h
  | bad =>
    rw [e] at h
    exact p.no h
theorem moOf_rp {d : D} {o : MO} {a : Addr} (e : moOf d = some o) (nh : ¬ hid a) (k : Ok K (hidA hid a) M ad H) (mo : MOk K (wd (hidA hid a) M ad H) a o) : Rp K (wd hid M ad H) d (.ref a) := by
  have nb : ¬ badOf hid M ad a := by
    intro z
    rcases z with z | ⟨i, z1, z2⟩
    · exact nh z
    · exact k.nh i a z1 z2 (.inr rfl)
  have le : Le (wd (hidA hid a) M ad H) (wd hid M ad H) := Le.unhid fun _ z => .inl z
  have mo' := MOk.le le rfl mo
  cases d with
  | lst ds =>
    cases e
    obtain ⟨vs, h1, h2⟩ := mo'
    simp only [Rp]
    exact ⟨a, vs, rfl, ⟨h1, nb⟩, h2⟩
  | dct ks ds =>
    cases e
    obtain ⟨es, h1, h2, h3⟩ := mo'
    simp only [Rp]
    exact ⟨a, es, rfl, h1, nb, h2, h3⟩
  | ins c ns ds =>
    cases e
    obtain ⟨dx, es, h1, h2, h3⟩ := mo'
    simp only [Rp]
    exact ⟨a, dx, es, rfl, h1, nb, h2, h3⟩
  | _ => cases e
/-- a new value is a value -/
theorem SndF.weak {te : TE} {m : SE} (s : SndF K W te m) : Snd K W te m := fun hid σ ρ M ad H Q k r h => by
  refine s hid σ ρ M ad H Q k r ?_
  cases e : m ρ M with
  | ok d M1 =>
    rw [e] at h
    exact fun a o ad' H' e0 e1 f k' mo => h _ ad' H' f (k'.unhid fun _ z => .inl z) (moOf_rp e0 (fun z => k.hh a z e1) k' mo)
  | exc c ns ds M1 =>
    rw [e] at h
    exact h
  | bad =>
    rw [e] at h
    exact h

/-! ### names, constants -/
def mVar (i : Nat) : SE := fun ρ M => match ρ[i]? with
  | some (.val d) => .ok d M
  | _ => .bad
theorem snd_var (i : Nat) : Snd K W (tVar i) (mVar i) := fun hid σ ρ M ad H Q k r h => by
  unfold mVar at h
  cases e : ρ[i]? with
  | none =>
    rw [e] at h
    exact h.elim
  | some z =>
    rw [e] at h
    cases z with
    | val d =>
      obtain ⟨v, h1, h2⟩ := r.val i d e
      exact ⟨v, h1, h v ad H Fr.refl k h2⟩
    | no => exact h.elim
    | own o => exact h.elim
def mC (d : D) : SE := fun _ M => .ok d M
theorem snd_c {d : D} {v : V} (h : ∀ W : Wd, Rp K W d v) : Snd K W (tC v) (mC d) := fun hid σ ρ M ad H Q k r q => q v ad H Fr.refl k (h _)
theorem snd_int (i : Int) : Snd K W (tC (.int i)) (mC (.int i)) := snd_c fun _ => by simp [Rp]
theorem snd_str (s : Str) : Snd K W (tC (.str s)) (mC (.str s)) := snd_c fun _ => by simp [Rp]
theorem snd_bl (b : Bool) : Snd K W (tC (.bl b)) (mC (.bl b)) := snd_c fun _ => by simp [Rp]
theorem snd_non : Snd K W (tC .non) (mC .non) := snd_c fun _ => by simp [Rp]
theorem snd_ty (n : String) : Snd K W (tC (.ty n)) (mC (.ty n)) := snd_c fun _ => by simp [Rp]

/-! ### operators of two values -/
def OpS (K : PySem.W.Frag) (r : R2) (f : D → D → Mem → Res D) : Prop := ∀ (hid : Addr → Prop) (M : Mem) (ad : List Addr) (H : Hp) (dx dy : D) (x y : V) (Q : VK) (E : XK), Ok K hid M ad H → Rp K (wd hid M ad H) dx x → Rp K (wd hid M ad H) dy y →
  (pV K hid Q E).P M ad H (f dx dy M) → r x y H Q
def mOp (f : D → D → Mem → Res D) (ma mb : SE) : SE := fun ρ M => (ma ρ M).bind fun x M1 => (mb ρ M1).bind fun y M2 => f x y M2
theorem snd_op {r : R2} {f : D → D → Mem → Res D} {ta tb : TE} {ma mb : SE} (ho : OpS K r f) (ha : Snd K W ta ma) (hb : Snd K W tb mb) : Snd K W (tOp r ta tb) (mOp f ma mb) := fun hid σ ρ M ad H Q k rr h => by
  refine ha.step k rr (pV K hid Q (wx W σ)) h fun dx M1 x ad1 H1 f1 k1 rx r1 h1 => ?_
  refine hb.step k1 r1 (pV K hid Q (wx W σ)) h1 fun dy M2 y ad2 H2 f2 k2 ry r2 h2 => ?_
  exact ho hid M2 ad2 H2 dx dy x y Q _ k2 (Rp.le f2.le dx rx) ry h2
theorem OpS.or {r r' : R2} {f g : D → D → Mem → Res D} (h : OpS K r f) (h' : OpS K r' g) : OpS K (fun x y H Q => r x y H Q ∨ r' x y H Q) (fun x y M => (f x y M).els (g x y M)) := fun hid M ad H dx dy x y Q E k rx ry q0 => by
  have q : (pV K hid Q E).P M ad H ((f dx dy M).els (g dx dy M)) := q0
  cases e : f dx dy M with
  | ok d M1 =>
    rw [e] at q
    exact .inl (h hid M ad H dx dy x y Q E k rx ry (by rw [e]; exact q))
  | exc c ns ds M1 =>
    rw [e] at q
    exact .inl (h hid M ad H dx dy x y Q E k rx ry (by rw [e]; exact q))
  | bad =>
    rw [e] at q
    exact .inr (h' hid M ad H dx dy x y Q E k rx ry q)
/-- two ints -/
def fInt (C : Int → Int → Bool) (g : Int → Int → D) : D → D → Mem → Res D := fun x y M => match x, y with
  | .int i, .int j => if C i j = true then .ok (g i j) M else .bad
  | _, _ => .bad
theorem ops_int {C : Int → Int → Prop} {Cb : Int → Int → Bool} {gv : Int → Int → V} {g : Int → Int → D} (hC : ∀ i j, Cb i j = true → C i j) (hg : ∀ W i j, Rp K W (g i j) (gv i j)) : OpS K (rI C gv) (fInt Cb g) := fun hid M ad H dx dy x y Q E k rx ry q => by
  cases dx with
  | int i =>
    cases dy with
    | int j =>
      have ex : x = .int i := by simpa only [Rp] using rx
      have ey : y = .int j := by simpa only [Rp] using ry
      have q' : (pV K hid Q E).P M ad H (if Cb i j = true then .ok (g i j) M else .bad) := q
      by_cases c : Cb i j = true
      · rw [if_pos c] at q'
        exact ⟨i, j, ex, ey, hC i j c, q' _ ad H Fr.refl k (hg _ i j)⟩
      · rw [if_neg c] at q'
        exact q'.elim
    | _ => exact q.elim
  | _ => exact q.elim
theorem ops_int0 {gv : Int → Int → V} {g : Int → Int → D} (hg : ∀ W i j, Rp K W (g i j) (gv i j)) : OpS K (rI0 gv) (fInt (fun _ _ => true) g) := fun hid M ad H dx dy x y Q E k rx ry q => by
  obtain ⟨i, j, e1, e2, _, q⟩ := ops_int (C := fun _ _ => True) (fun _ _ _ => trivial) hg hid M ad H dx dy x y Q E k rx ry q
  exact ⟨i, j, e1, e2, q⟩
end
end DL

set_option maxHeartbeats 4000000
/-! DL, part c: operators, comparisons, tests, displays, built-in calls over data -/
namespace DL
open PySem PySem.Spec PyProof.Rows L2
section
variable {K : PySem.W.Frag} {hid : Addr → Prop} {M M1 : Mem} {ad ad1 : List Addr} {H H1 : Hp} {σ : L2.St} {ρ : Rho} {Q : VK} {W : WX} {β : Type}

/-! ### a new list, a new tuple -/
theorem new_lst {p : Addr} {ds : List D} {vs : List V} (k : Ok K hid M ad H) (hp : H p = none) (r : RpL K (wd hid M ad H) ds vs) :
    Fr hid M ad H M ad (upd H p (.lst vs)) ∧ Ok K hid M ad (upd H p (.lst vs)) ∧ Rp K (wd hid M ad (upd H p (.lst vs))) (.lst ds) (.ref p) := by
  have f : Fr hid M ad H M ad (upd H p (.lst vs)) := Fr.new hp (k.fresh hp)
  refine ⟨f, k.new hp, ?_⟩
  simp only [Rp]
  exact ⟨p, vs, rfl, ⟨upd_same, k.fresh hp⟩, RpL.le f.le ds r⟩
theorem new_tup {p : Addr} {ds : List D} {vs : List V} (k : Ok K hid M ad H) (hp : H p = none) (r : RpL K (wd hid M ad H) ds vs) :
    Fr hid M ad H M ad (upd H p (.tup vs)) ∧ Ok K hid M ad (upd H p (.tup vs)) ∧ Rp K (wd hid M ad (upd H p (.tup vs))) (.tup ds) (.ref p) := by
  have f : Fr hid M ad H M ad (upd H p (.tup vs)) := Fr.new hp (k.fresh hp)
  refine ⟨f, k.new hp, ?_⟩
  simp only [Rp]
  exact ⟨p, vs, rfl, .inl ⟨.inl upd_same, k.fresh hp⟩, RpL.le f.le ds r⟩
theorem new_lstF {p : Addr} {ds : List D} {vs : List V} (k : Ok K hid M ad H) (hp : H p = none) (r : RpL K (wd hid M ad H) ds vs) :
    Fr hid M ad H M ad (upd H p (.lst vs)) ∧ Ok K (hidA hid p) M ad (upd H p (.lst vs)) ∧ MOk K (wd (hidA hid p) M ad (upd H p (.lst vs))) p (.lst ds) := by
  have f : Fr hid M ad H M ad (upd H p (.lst vs)) := Fr.new hp (k.fresh hp)
  exact ⟨f, k.hide hp, vs, upd_same, RpL.le (Le.hide hp) ds r⟩

/-! ### displays -/
def mNil : SA := fun _ M => .ok [] M
def mCons (m : SE) (r : SA) : SA := fun ρ M => (m ρ M).bind fun d M1 => (r ρ M1).bind fun ds M2 => .ok (d :: ds) M2
theorem snd_nil : SndA K W tNil mNil := fun hid σ ρ M ad H Q k r h => h [] ad H Fr.refl k RpL.nil
theorem snd_cons {te : TE} {ta : TA} {m : SE} {r : SA} (h1 : Snd K W te m) (h2 : SndA K W ta r) : SndA K W (tCons te ta) (mCons m r) := fun hid σ ρ M ad H Q k rr h => by
  refine h1.step k rr (pA K hid Q (wx W σ)) h fun d M1 x ad1 H1 f1 k1 rx r1 h1 => ?_
  refine h2.step k1 r1 (pA K hid Q (wx W σ)) h1 fun ds M2 xs ad2 H2 f2 k2 rxs r2 h2 => ?_
  exact h2 (x :: xs) ad2 H2 Fr.refl k2 (RpL.cons (Rp.le f2.le d rx) rxs)
def mTup (m : SA) : SE := fun ρ M => (m ρ M).bind fun ds M1 => if ds.length ≤ sizeLine then .ok (.tup ds) M1 else .bad
def mLst (m : SA) : SE := fun ρ M => (m ρ M).bind fun ds M1 => if ds.length ≤ sizeLine then .ok (.lst ds) M1 else .bad
theorem snd_tup {ta : TA} {m : SA} (h : SndA K W ta m) : Snd K W (tTup ta) (mTup m) := fun hid σ ρ M ad H Q k rr q => by
  refine h.step k rr (pV K hid Q (wx W σ)) q fun ds M1 xs ad1 H1 f1 k1 rx r1 h1 => ?_
  by_cases c : ds.length ≤ sizeLine
  · rw [if_pos c] at h1
    refine ⟨by rw [rx.len]; exact c, fun p hp => ?_⟩
    obtain ⟨f2, k2, r2⟩ := new_tup k1 hp rx
    exact h1 _ _ _ f2 k2 r2
  · rw [if_neg c] at h1
    exact h1.elim
theorem snd_lstF {ta : TA} {m : SA} (h : SndA K W ta m) : SndF K W (tLst ta) (mLst m) := fun hid σ ρ M ad H Q k rr q => by
  refine h.step k rr (pF K hid Q (wx W σ)) q fun ds M1 xs ad1 H1 f1 k1 rx r1 h1 => ?_
  by_cases c : ds.length ≤ sizeLine
  · rw [if_pos c] at h1
    refine ⟨by rw [rx.len]; exact c, fun p hp => ?_⟩
    obtain ⟨f2, k2, r2⟩ := new_lstF k1 hp rx
    exact h1 p _ _ _ rfl hp f2 k2 r2
  · rw [if_neg c] at h1
    exact h1.elim
theorem snd_lst {ta : TA} {m : SA} (h : SndA K W ta m) : Snd K W (tLst ta) (mLst m) := (snd_lstF h).weak

/-! ### a new thing that will change -/
def mOwn (m : SE) : SE := fun ρ M => (m ρ M).bind fun d M1 => match moOf d with
  | some o => .ok (.obj M1.length) (M1 ++ [o])
  | none => .bad
theorem moOf_live {d : D} {o : MO} (e : moOf d = some o) : o ≠ .dead := by
  intro z
  subst z
  cases d <;> cases e
/-- a hidden thing joins the memory -/
theorem join_mem {a : Addr} {o : MO} (ho : o ≠ .dead) (nh : ¬ hid a) (k : Ok K (hidA hid a) M ad H) (mo : MOk K (wd (hidA hid a) M ad H) a o) :
    Ok K hid (M ++ [o]) (ad ++ [a]) H ∧ Le (wd (hidA hid a) M ad H) (wd hid (M ++ [o]) (ad ++ [a]) H) := by
  have bd : ∀ b, badOf hid (M ++ [o]) (ad ++ [a]) b → badOf (hidA hid a) M ad b := by
    intro b z
    rcases z with z | ⟨i, ⟨u, z1, z3⟩, z2⟩
    · exact .inl (.inl z)
    · by_cases c : i < M.length
      · rw [List.getElem?_append_left c] at z1
        rw [List.getElem?_append_left (by rw [k.len]; exact c)] at z2
        exact .inr ⟨i, ⟨u, z1, z3⟩, z2⟩
      · have hi : i < (ad ++ [a]).length := (List.getElem?_eq_some_iff.mp z2).1
        rw [List.length_append, k.len, List.length_singleton] at hi
        have e : i = ad.length := by rw [k.len]; omega
        subst e
        rw [List.getElem?_concat_length] at z2
        exact .inl (.inr (Option.some.inj z2).symm)
  have le : Le (wd (hidA hid a) M ad H) (wd hid (M ++ [o]) (ad ++ [a]) H) := ⟨⟨[a], rfl⟩, fun b u e n => ⟨e, fun z => n (bd b z)⟩⟩
  have at_ : ∀ (i : Nat) (u : MO) (b : Addr), (M ++ [o])[i]? = some u → (ad ++ [a])[i]? = some b → (M[i]? = some u ∧ ad[i]? = some b) ∨ (i = M.length ∧ u = o ∧ b = a) := by
    intro i u b z1 z2
    by_cases c : i < M.length
    · rw [List.getElem?_append_left c] at z1
      rw [List.getElem?_append_left (by rw [k.len]; exact c)] at z2
      exact .inl ⟨z1, z2⟩
    · have hi : i < (M ++ [o]).length := (List.getElem?_eq_some_iff.mp z1).1
      rw [List.length_append, List.length_singleton] at hi
      have e : i = M.length := by omega
      subst e
      rw [List.getElem?_concat_length] at z1
      rw [← k.len, List.getElem?_concat_length] at z2
      exact .inr ⟨rfl, (Option.some.inj z1).symm, (Option.some.inj z2).symm⟩
  refine ⟨⟨by rw [List.length_append, List.length_append, k.len] <;> rfl, ?_, ?_, ?_, fun b z => k.hh b (.inl z)⟩, le⟩
  · intro i j b ⟨u, z1, z3⟩ ⟨w, y1, y3⟩ z2 y2
    rcases at_ i u b z1 z2 with ⟨p1, p2⟩ | ⟨p1, p2, p3⟩
    · rcases at_ j w b y1 y2 with ⟨q1, q2⟩ | ⟨q1, q2, q3⟩
      · exact k.inj i j b ⟨u, p1, z3⟩ ⟨w, q1, y3⟩ p2 q2
      · exact absurd (Or.inr q3) (k.nh i b ⟨u, p1, z3⟩ p2)
    · rcases at_ j w b y1 y2 with ⟨q1, q2⟩ | ⟨q1, q2, q3⟩
      · exact absurd (Or.inr p3) (k.nh j b ⟨w, q1, y3⟩ q2)
      · rw [p1, q1]
  · intro i b ⟨u, z1, z3⟩ z2 z
    rcases at_ i u b z1 z2 with ⟨p1, p2⟩ | ⟨p1, p2, p3⟩
    · exact k.nh i b ⟨u, p1, z3⟩ p2 (.inl z)
    · rw [p3] at z
      exact nh z
  · intro i u b z1 z2
    rcases at_ i u b z1 z2 with ⟨p1, p2⟩ | ⟨p1, p2, p3⟩
    · exact MOk.le le rfl (k.ob i u b p1 p2)
    · rw [p2, p3]
      exact MOk.le le rfl mo
theorem snd_own {te : TE} {m : SE} (s : SndF K W te m) : Snd K W te (mOwn m) := fun hid σ ρ M ad H Q k r h => by
  refine s hid σ ρ M ad H Q k r ?_
  have h' : (pV K hid Q (wx W σ)).P M ad H ((m ρ M).bind fun d M1 => match moOf d with
    | some o => .ok (.obj M1.length) (M1 ++ [o])
    | none => .bad) := h
  cases e : m ρ M with
  | ok d M1 =>
    rw [e] at h'
    intro a o ad' H' e0 e1 f k' mo
    have h2 : (pV K hid Q (wx W σ)).P M ad H (match moOf d with
      | some o => .ok (.obj M1.length) (M1 ++ [o])
      | none => .bad) := h'
    rw [e0] at h2
    have nh : ¬ hid a := fun z => k.hh a z e1
    obtain ⟨k2, le⟩ := join_mem (moOf_live e0) nh k' mo
    refine h2 (.ref a) (ad' ++ [a]) H' ⟨?_, f.hidk, f.dom⟩ k2 ?_
    · obtain ⟨e2, h3⟩ := f.le.pre
      refine ⟨⟨e2 ++ [a], by rw [← List.append_assoc, ← h3]⟩, fun b u hb n => ?_⟩
      obtain ⟨g1, g2⟩ := f.le.keep b u hb n
      have ne : b ≠ a := fun q => by
        subst q
        have hb' : H b = some u := hb
        rw [e1] at hb'
        cases hb'
      exact le.keep b u g1 fun z => by
        rcases z with (z | z) | z
        · exact g2 (.inl z)
        · exact ne z
        · exact g2 (.inr z)
    · simp only [Rp]
      refine ⟨a, rfl, ?_⟩
      show (ad' ++ [a])[M1.length]? = some a
      rw [← k'.len, List.getElem?_concat_length]
  | exc c ns ds M1 =>
    rw [e] at h'
    exact h'
  | bad =>
    rw [e] at h'
    exact h'

/-! ### tests -/
def mTest (m : SE) : ST := fun ρ M => (m ρ M).bind fun d M1 => match d with
  | .bl b => .ok b M1
  | _ => .bad
theorem snd_test {te : TE} {m : SE} (s : Snd K W te m) : SndT K W (tB te) (mTest m) := fun hid σ ρ M ad H Q k r h => by
  refine s.step k r (pB K hid Q (wx W σ)) h fun d M1 x ad1 H1 f1 k1 rx r1 h1 => ?_
  cases d with
  | bl b =>
    have e : x = .bl b := by simpa only [Rp] using rx
    exact ⟨b, e, h1 ad1 H1 Fr.refl k1⟩
  | _ => exact h1.elim
def mAnd (m n : ST) : ST := fun ρ M => (m ρ M).bind fun b M1 => if b = true then n ρ M1 else .ok false M1
def mOr (m n : ST) : ST := fun ρ M => (m ρ M).bind fun b M1 => if b = true then .ok true M1 else n ρ M1
def mNot (m : ST) : ST := fun ρ M => (m ρ M).bind fun b M1 => .ok (!b) M1
theorem snd_and {t u : TT} {m n : ST} (h1 : SndT K W t m) (h2 : SndT K W u n) : SndT K W (tAnd t u) (mAnd m n) := fun hid σ ρ M ad H Q k r h => by
  refine h1.step k r (pB K hid Q (wx W σ)) h fun b M1 ad1 H1 f1 k1 r1 q => ?_
  cases b with
  | true =>
    rw [if_pos rfl] at q
    exact iteT (h2 hid σ ρ M1 ad1 H1 Q k1 r1 q)
  | false =>
    rw [if_neg (by decide)] at q
    exact iteF (q ad1 H1 Fr.refl k1)
theorem snd_or {t u : TT} {m n : ST} (h1 : SndT K W t m) (h2 : SndT K W u n) : SndT K W (tOr t u) (mOr m n) := fun hid σ ρ M ad H Q k r h => by
  refine h1.step k r (pB K hid Q (wx W σ)) h fun b M1 ad1 H1 f1 k1 r1 q => ?_
  cases b with
  | true =>
    rw [if_pos rfl] at q
    exact iteT (q ad1 H1 Fr.refl k1)
  | false =>
    rw [if_neg (by decide)] at q
    exact iteF (h2 hid σ ρ M1 ad1 H1 Q k1 r1 q)
theorem snd_not {t : TT} {m : ST} (h1 : SndT K W t m) : SndT K W (tNot t) (mNot m) := fun hid σ ρ M ad H Q k r h => by
  refine h1.step k r (pB K hid Q (wx W σ)) h fun b M1 ad1 H1 f1 k1 r1 q => ?_
  exact q ad1 H1 Fr.refl k1
/-- and, or, not as values of truth -/
def mB (m : ST) : SE := fun ρ M => (m ρ M).bind fun b M1 => .ok (.bl b) M1
theorem rp_bl {W : Wd} (b : Bool) : Rp K W (.bl b) (.bl b) := by simp [Rp]
theorem rp_int {W : Wd} (b : Int) : Rp K W (.int b) (.int b) := by simp [Rp]
theorem rp_str {W : Wd} (b : Str) : Rp K W (.str b) (.str b) := by simp [Rp]
theorem snd_andV {ta tb : TE} {ma mb : SE} (h1 : Snd K W ta ma) (h2 : Snd K W tb mb) : Snd K W (tAndV ta tb) (mB (mAnd (mTest ma) (mTest mb))) := fun hid σ ρ M ad H Q k r h => by
  refine h1 hid σ ρ M ad H _ k r ?_
  have h' : (pV K hid Q (wx W σ)).P M ad H ((((ma ρ M).bind fun d M1 => match d with
    | .bl b => Res.ok b M1
    | _ => .bad).bind fun b M1 => if b = true then mTest mb ρ M1 else .ok false M1).bind fun b M1 => .ok (.bl b) M1) := h
  cases e : ma ρ M with
  | ok d M1 =>
    rw [e] at h'
    intro v ad1 H1 f1 k1 rv
    cases d with
    | bl b =>
      have ev : v = .bl b := by simpa only [Rp] using rv
      refine ⟨b, ev, ?_⟩
      cases b with
      | false => exact iteF (h' _ ad1 H1 f1 k1 (rp_bl _))
      | true =>
        refine iteT ?_
        have h2' : (pV K hid Q (wx W σ)).P M ad H (((mb ρ M1).bind fun d M1 => match d with
          | .bl b => Res.ok b M1
          | _ => .bad).bind fun b M1 => .ok (.bl b) M1) := h'
        refine h2 hid σ ρ M1 ad1 H1 Q k1 (r.fr f1) ?_
        cases e2 : mb ρ M1 with
        | ok d2 M2 =>
          rw [e2] at h2'
          intro v2 ad2 H2 f2 k2 rv2
          cases d2 with
          | bl b2 =>
            have ev2 : v2 = .bl b2 := by simpa only [Rp] using rv2
            exact h2' v2 ad2 H2 (f1.trans f2) k2 rv2
          | _ => exact h2'.elim
        | exc c ns ds M2 =>
          rw [e2] at h2'
          exact PostX.fr f1 h2'
        | bad =>
          rw [e2] at h2'
          exact h2'.elim
    | _ => exact h'.elim
  | exc c ns ds M1 =>
    rw [e] at h'
    exact h'
  | bad =>
    rw [e] at h'
    exact h'
theorem snd_orV {ta tb : TE} {ma mb : SE} (h1 : Snd K W ta ma) (h2 : Snd K W tb mb) : Snd K W (tOrV ta tb) (mB (mOr (mTest ma) (mTest mb))) := fun hid σ ρ M ad H Q k r h => by
  refine h1 hid σ ρ M ad H _ k r ?_
  have h' : (pV K hid Q (wx W σ)).P M ad H ((((ma ρ M).bind fun d M1 => match d with
    | .bl b => Res.ok b M1
    | _ => .bad).bind fun b M1 => if b = true then .ok true M1 else mTest mb ρ M1).bind fun b M1 => .ok (.bl b) M1) := h
  cases e : ma ρ M with
  | ok d M1 =>
    rw [e] at h'
    intro v ad1 H1 f1 k1 rv
    cases d with
    | bl b =>
      have ev : v = .bl b := by simpa only [Rp] using rv
      refine ⟨b, ev, ?_⟩
      cases b with
      | true => exact iteT (h' _ ad1 H1 f1 k1 (rp_bl _))
      | false =>
        refine iteF ?_
        have h2' : (pV K hid Q (wx W σ)).P M ad H (((mb ρ M1).bind fun d M1 => match d with
          | .bl b => Res.ok b M1
          | _ => .bad).bind fun b M1 => .ok (.bl b) M1) := h'
        refine h2 hid σ ρ M1 ad1 H1 Q k1 (r.fr f1) ?_
        cases e2 : mb ρ M1 with
        | ok d2 M2 =>
          rw [e2] at h2'
          intro v2 ad2 H2 f2 k2 rv2
          cases d2 with
          | bl b2 =>
            have ev2 : v2 = .bl b2 := by simpa only [Rp] using rv2
            exact h2' v2 ad2 H2 (f1.trans f2) k2 rv2
          | _ => exact h2'.elim
        | exc c ns ds M2 =>
          rw [e2] at h2'
          exact PostX.fr f1 h2'
        | bad =>
          rw [e2] at h2'
          exact h2'.elim
    | _ => exact h'.elim
  | exc c ns ds M1 =>
    rw [e] at h'
    exact h'
  | bad =>
    rw [e] at h'
    exact h'
theorem snd_notV {ta : TE} {ma : SE} (h1 : Snd K W ta ma) : Snd K W (tNotV ta) (mB (mNot (mTest ma))) := fun hid σ ρ M ad H Q k r h => by
  refine h1 hid σ ρ M ad H _ k r ?_
  have h' : (pV K hid Q (wx W σ)).P M ad H ((((ma ρ M).bind fun d M1 => match d with
    | .bl b => Res.ok b M1
    | _ => .bad).bind fun b M1 => .ok (!b) M1).bind fun b M1 => .ok (.bl b) M1) := h
  cases e : ma ρ M with
  | ok d M1 =>
    rw [e] at h'
    intro v ad1 H1 f1 k1 rv
    cases d with
    | bl b =>
      have ev : v = .bl b := by simpa only [Rp] using rv
      exact ⟨b, ev, h' _ ad1 H1 f1 k1 (rp_bl _)⟩
    | _ => exact h'.elim
  | exc c ns ds M1 =>
    rw [e] at h'
    exact h'
  | bad =>
    rw [e] at h'
    exact h'
def mIfE (t : ST) (a b : SE) : SE := fun ρ M => (t ρ M).bind fun c M1 => if c = true then a ρ M1 else b ρ M1
theorem snd_ifE {t : TT} {ta tb : TE} {m : ST} {ma mb : SE} (h : SndT K W t m) (h1 : Snd K W ta ma) (h2 : Snd K W tb mb) : Snd K W (tIf t ta tb) (mIfE m ma mb) := fun hid σ ρ M ad H Q k r q => by
  refine h.step k r (pV K hid Q (wx W σ)) q fun b M1 ad1 H1 f1 k1 r1 q => ?_
  cases b with
  | true =>
    rw [if_pos rfl] at q
    exact iteT (h1 hid σ ρ M1 ad1 H1 Q k1 r1 q)
  | false =>
    rw [if_neg (by decide)] at q
    exact iteF (h2 hid σ ρ M1 ad1 H1 Q k1 r1 q)
end
end DL

set_option maxHeartbeats 4000000
/-! DL, part d: the operators and what they yield over data -/
namespace DL
open PySem PySem.Spec PyProof.Rows L2
theorem OpR.or {X : Cx} {f : Value → Value → Sem Value} {r r' : R2} (h : OpR X f r) (h' : OpR X f r') : OpR X f (fun x y H Q => r x y H Q ∨ r' x y H Q) :=
  fun pins s σ H x y v u Q I rx ry q => q.elim (h pins s σ H x y v u Q I rx ry) (h' pins s σ H x y v u Q I rx ry)
theorem OpR.mono {X : Cx} {f : Value → Value → Sem Value} {r r' : R2} (h : OpR X f r) (hi : ∀ x y H Q, r' x y H Q → r x y H Q) : OpR X f r' :=
  fun pins s σ H x y v u Q I rx ry q => h pins s σ H x y v u Q I rx ry (hi _ _ _ _ q)
section
variable {K : PySem.W.Frag}

/-! ### scalars -/
def scV : D → Option V
  | .non => some .non
  | .bl b => some (.bl b)
  | .int i => some (.int i)
  | .str s => some (.str s)
  | _ => none
theorem scV_rp {W : Wd} {d : D} {v u : V} (h : scV d = some u) (r : Rp K W d v) : v = u := by
  cases d <;> first
    | cases h <;> simpa only [Rp] using r
    | (cases h)
def scL : List D → Option (List V)
  | [] => some []
  | d :: ds => (scV d).bind fun v => (scL ds).map fun vs => v :: vs
theorem scL_rp {W : Wd} : ∀ {ds : List D} {vs us : List V}, scL ds = some us → RpL K W ds vs → vs = us
  | [], vs, us, h, r => by
    have e := r.nilI
    subst e
    exact Option.some.inj h
  | d :: ds, vs, us, h, r => by
    obtain ⟨v, r', e, h1, h2⟩ := r.consI
    unfold scL at h
    cases e1 : scV d with
    | none =>
      rw [e1] at h
      cases h
    | some w =>
      rw [e1] at h
      have h' : (scL ds).map (fun vs => w :: vs) = some us := h
      cases e2 : scL ds with
      | none =>
        rw [e2] at h'
        cases h'
      | some ws =>
        rw [e2] at h'
        have e3 := scV_rp e1 h1
        have e4 := scL_rp e2 h2
        rw [e, e3, e4]
        exact Option.some.inj h'
theorem scV_flat {d : D} {u : V} (h : scV d = some u) : flatV u = true := by
  cases d <;> first
    | (cases h; rfl)
    | cases h
theorem scL_flat : ∀ {ds : List D} {us : List V}, scL ds = some us → us.all flatV = true
  | [], us, h => by
    have e := Option.some.inj h
    subst e
    rfl
  | d :: ds, us, h => by
    unfold scL at h
    cases e1 : scV d with
    | none =>
      rw [e1] at h
      cases h
    | some w =>
      rw [e1] at h
      have h' : (scL ds).map (fun vs => w :: vs) = some us := h
      cases e2 : scL ds with
      | none =>
        rw [e2] at h'
        cases h'
      | some ws =>
        rw [e2] at h'
        have e3 : w :: ws = us := Option.some.inj h'
        subst e3
        rw [List.all_cons, scV_flat e1, scL_flat e2]
        rfl

/-! ### data -/
mutual
def py : D → Option PyData
  | .non => some .none
  | .bl b => some (.bool b)
  | .int i => some (.int i)
  | .str s => some (.str s)
  | .lst ds => (pyL ds).map .list
  | .tup ds => (pyL ds).map .tuple
  | .ty _ => none
  | .cls _ => none
  | .dct _ _ => none
  | .ins _ _ _ => none
  | .obj _ => none
  | .scr _ => none
def pyL : List D → Option (List PyData)
  | [] => some []
  | d :: ds => match py d, pyL ds with
    | some p, some ps => some (p :: ps)
    | _, _ => none
end
mutual
theorem py_dp {W : Wd} : ∀ (d : D) {p : PyData} {v : V}, py d = some p → Rp K W d v → Dp K W.H v p
  | .non, p, v, h, r => by
    simp only [py, Option.some.injEq, Rp] at h r
    subst h r
    exact .non
  | .bl b, p, v, h, r => by
    simp only [py, Option.some.injEq, Rp] at h r
    subst h r
    exact .bl b
  | .int i, p, v, h, r => by
    simp only [py, Option.some.injEq, Rp] at h r
    subst h r
    exact .int i
  | .str s, p, v, h, r => by
    simp only [py, Option.some.injEq, Rp] at h r
    subst h r
    exact .str s
  | .lst ds, p, v, h, r => by
    simp only [py, Rp] at h r
    obtain ⟨a, vs, e, h1, h2⟩ := r
    cases q : pyL ds with
    | none =>
      rw [q] at h
      cases h
    | some ps =>
      rw [q] at h
      have e2 : PyData.list ps = p := Option.some.inj h
      subst e e2
      exact .lst (SqL.of h1.1) (pyL_dp ds q h2)
  | .tup ds, p, v, h, r => by
    simp only [py, Rp] at h r
    obtain ⟨a, vs, e, h1, h2⟩ := r
    cases q : pyL ds with
    | none =>
      rw [q] at h
      cases h
    | some ps =>
      rw [q] at h
      have e2 : PyData.tuple ps = p := Option.some.inj h
      subst e e2
      exact .tup h1.sq (pyL_dp ds q h2)
  | .ty _, _, _, h, _ => by simp [py] at h
  | .cls _, _, _, h, _ => by simp [py] at h
  | .dct _ _, _, _, h, _ => by simp [py] at h
  | .ins _ _ _, _, _, h, _ => by simp [py] at h
  | .obj _, _, _, h, _ => by simp [py] at h
  | .scr _, _, _, h, _ => by simp [py] at h
theorem pyL_dp {W : Wd} : ∀ (ds : List D) {ps : List PyData} {vs : List V}, pyL ds = some ps → RpL K W ds vs → DpAll K W.H vs ps
  | [], ps, vs, h, r => by
    simp only [pyL, Option.some.injEq] at h
    have e := r.nilI
    subst h e
    exact .nil
  | d :: ds, ps, vs, h, r => by
    obtain ⟨v, r', e, h1, h2⟩ := r.consI
    simp only [pyL] at h
    cases q : py d with
    | none =>
      rw [q] at h
      cases h
    | some p =>
      cases q2 : pyL ds with
      | none =>
        rw [q, q2] at h
        cases h
      | some ps' =>
        rw [q, q2] at h
        have e2 : p :: ps' = ps := Option.some.inj h
        subst e e2
        exact .cons (py_dp d q h1) (pyL_dp ds q2 h2)
end

/-! ### == and != -/
def fEqS (neg : Bool) : D → D → Mem → Res D := fun x y M => match scV x, scV y with
  | some u, some w => if scal u w = true then .ok (.bl (if neg then !decide (u = w) else decide (u = w))) M else .bad
  | _, _ => .bad
def fEqD (neg : Bool) : D → D → Mem → Res D := fun x y M => match py x, py y with
  | some p, some q => if (SeqAt.shaped p && SeqAt.shaped q) = true then .ok (.bl (if neg then !PyData.eqv p q else PyData.eqv p q)) M else .bad
  | _, _ => .bad
theorem ops_eqS : OpS K rEq (fEqS false) := fun hid M ad H dx dy x y Q E k rx ry q => by
  unfold fEqS at q
  cases e1 : scV dx with
  | none =>
    rw [e1] at q
    exact q.elim
  | some u =>
    cases e2 : scV dy with
    | none =>
      rw [e1, e2] at q
      exact q.elim
    | some w =>
      rw [e1, e2] at q
      have q' : (pV K hid Q E).P M ad H (if scal u w = true then .ok (.bl (decide (u = w))) M else .bad) := q
      by_cases c : scal u w = true
      · rw [if_pos c] at q'
        rw [scV_rp e1 rx, scV_rp e2 ry]
        exact ⟨c, q' _ ad H Fr.refl k (rp_bl _)⟩
      · rw [if_neg c] at q'
        exact q'.elim
theorem ops_neS : OpS K rNe (fEqS true) := fun hid M ad H dx dy x y Q E k rx ry q => by
  unfold fEqS at q
  cases e1 : scV dx with
  | none =>
    rw [e1] at q
    exact q.elim
  | some u =>
    cases e2 : scV dy with
    | none =>
      rw [e1, e2] at q
      exact q.elim
    | some w =>
      rw [e1, e2] at q
      have q' : (pV K hid Q E).P M ad H (if scal u w = true then .ok (.bl (!decide (u = w))) M else .bad) := q
      by_cases c : scal u w = true
      · rw [if_pos c] at q'
        rw [scV_rp e1 rx, scV_rp e2 ry]
        exact ⟨c, q' _ ad H Fr.refl k (rp_bl _)⟩
      · rw [if_neg c] at q'
        exact q'.elim
theorem ops_eqD : OpS K (rEqD K) (fEqD false) := fun hid M ad H dx dy x y Q E k rx ry q => by
  unfold fEqD at q
  cases e1 : py dx with
  | none =>
    rw [e1] at q
    exact q.elim
  | some u =>
    cases e2 : py dy with
    | none =>
      rw [e1, e2] at q
      exact q.elim
    | some w =>
      rw [e1, e2] at q
      have q' : (pV K hid Q E).P M ad H (if (SeqAt.shaped u && SeqAt.shaped w) = true then .ok (.bl (PyData.eqv u w)) M else .bad) := q
      by_cases c : (SeqAt.shaped u && SeqAt.shaped w) = true
      · rw [if_pos c] at q'
        obtain ⟨c1, c2⟩ := Bool.and_eq_true_iff.mp c
        exact ⟨u, w, py_dp dx e1 rx, py_dp dy e2 ry, c1, c2, q' _ ad H Fr.refl k (rp_bl _)⟩
      · rw [if_neg c] at q'
        exact q'.elim
theorem ops_neD : OpS K (rNeD K) (fEqD true) := fun hid M ad H dx dy x y Q E k rx ry q => by
  unfold fEqD at q
  cases e1 : py dx with
  | none =>
    rw [e1] at q
    exact q.elim
  | some u =>
    cases e2 : py dy with
    | none =>
      rw [e1, e2] at q
      exact q.elim
    | some w =>
      rw [e1, e2] at q
      have q' : (pV K hid Q E).P M ad H (if (SeqAt.shaped u && SeqAt.shaped w) = true then .ok (.bl (!PyData.eqv u w)) M else .bad) := q
      by_cases c : (SeqAt.shaped u && SeqAt.shaped w) = true
      · rw [if_pos c] at q'
        obtain ⟨c1, c2⟩ := Bool.and_eq_true_iff.mp c
        exact ⟨u, w, py_dp dx e1 rx, py_dp dy e2 ry, c1, c2, q' _ ad H Fr.refl k (rp_bl _)⟩
      · rw [if_neg c] at q'
        exact q'.elim
def fEq : D → D → Mem → Res D := fun x y M => (fEqS false x y M).els (fEqD false x y M)
def fNe : D → D → Mem → Res D := fun x y M => (fEqS true x y M).els (fEqD true x y M)
def rEqA (K : PySem.W.Frag) : R2 := fun x y H Q => rEq x y H Q ∨ rEqD K x y H Q
def rNeA (K : PySem.W.Frag) : R2 := fun x y H Q => rNe x y H Q ∨ rNeD K x y H Q
theorem ops_eq : OpS K (rEqA K) fEq := ops_eqS.or ops_eqD
theorem ops_ne : OpS K (rNeA K) fNe := ops_neS.or ops_neD
theorem opr_eq {X : Cx} (hu : X.A.units + 64 < cLine) : OpR X (compareOp .Eq) (rEqA X.K) := op_eq.or (op_eqD hu)
theorem opr_ne {X : Cx} (hu : X.A.units + 64 < cLine) : OpR X (compareOp .NotEq) (rNeA X.K) := op_ne.or (op_neD hu)

/-! ### is None -/
def fIsN (neg : Bool) : D → D → Mem → Res D := fun x y M => match y with
  | .non => .ok (.bl (match x with
    | .non => !neg
    | _ => neg)) M
  | _ => .bad
theorem rp_non {W : Wd} {d : D} {v : V} (r : Rp K W d v) : decide (v = .non) = (match d with
    | .non => true
    | _ => false) := by
  cases d with
  | non =>
    have e : v = .non := by simpa only [Rp] using r
    subst e
    rfl
  | bl b => have e : v = .bl b := by simpa only [Rp] using r
            subst e; rfl
  | int b => have e : v = .int b := by simpa only [Rp] using r
             subst e; rfl
  | str b => have e : v = .str b := by simpa only [Rp] using r
             subst e; rfl
  | ty b => have e : v = .ty b := by simpa only [Rp] using r
            subst e; rfl
  | cls b => have e : v = .ref (He.ga K b) := by simpa only [Rp] using r
             subst e; rfl
  | lst ds => simp only [Rp] at r; obtain ⟨a, _, e, _⟩ := r; subst e; rfl
  | tup ds => simp only [Rp] at r; obtain ⟨a, _, e, _⟩ := r; subst e; rfl
  | dct ks ds => simp only [Rp] at r; obtain ⟨a, _, e, _⟩ := r; subst e; rfl
  | ins c ns ds => simp only [Rp] at r; obtain ⟨a, _, _, e, _⟩ := r; subst e; rfl
  | obj i => simp only [Rp] at r; obtain ⟨a, e, _⟩ := r; subst e; rfl
  | scr i => simp only [Rp] at r; obtain ⟨a, e, _⟩ := r; subst e; rfl
theorem ops_isN : OpS K (fun x y H Q => y = .non ∧ Q (.bl (decide (x = .non))) H) (fIsN false) := fun hid M ad H dx dy x y Q E k rx ry q => by
  cases dy with
  | non =>
    refine ⟨by simpa only [Rp] using ry, ?_⟩
    rw [rp_non rx]
    have q' := q _ ad H Fr.refl k (rp_bl _)
    cases dx <;> exact q'
  | _ => exact q.elim
theorem ops_notN : OpS K (fun x y H Q => y = .non ∧ Q (.bl (!decide (x = .non))) H) (fIsN true) := fun hid M ad H dx dy x y Q E k rx ry q => by
  cases dy with
  | non =>
    refine ⟨by simpa only [Rp] using ry, ?_⟩
    rw [rp_non rx]
    have q' := q _ ad H Fr.refl k (rp_bl _)
    cases dx <;> exact q'
  | _ => exact q.elim

/-! ### order of ints -/
def fLt : D → D → Mem → Res D := fInt (fun _ _ => true) fun i j => .bl (decide (i < j))
def fLe : D → D → Mem → Res D := fInt (fun _ _ => true) fun i j => .bl (decide (i ≤ j))
def fGt : D → D → Mem → Res D := fInt (fun _ _ => true) fun i j => .bl (decide (j < i))
def fGe : D → D → Mem → Res D := fInt (fun _ _ => true) fun i j => .bl (decide (j ≤ i))
theorem ops_lt : OpS K (rI0 fun i j => .bl (decide (i < j))) fLt := ops_int0 fun _ _ _ => rp_bl _
theorem ops_le : OpS K (rI0 fun i j => .bl (decide (i ≤ j))) fLe := ops_int0 fun _ _ _ => rp_bl _
theorem ops_gt : OpS K (rI0 fun i j => .bl (decide (j < i))) fGt := ops_int0 fun _ _ _ => rp_bl _
theorem ops_ge : OpS K (rI0 fun i j => .bl (decide (j ≤ i))) fGe := ops_int0 fun _ _ _ => rp_bl _

/-! ### arithmetic; + of texts, lists, tuples -/
def fSub : D → D → Mem → Res D := fInt (fun _ _ => true) fun i j => .int (i - j)
theorem ops_sub : OpS K (rI0 fun i j => .int (i - j)) fSub := ops_int0 fun _ _ _ => rp_int _
def cMulB (i j : Int) : Bool := decide ((-(2 ^ 64) < i ∧ i < 2 ^ 64) ∨ (-(2 ^ 64) < j ∧ j < 2 ^ 64))
def fMulI : D → D → Mem → Res D := fInt cMulB fun i j => .int (i * j)
theorem ops_mulI : OpS K (rI CMul fun i j => .int (i * j)) fMulI := ops_int (fun _ _ h => by have z := of_decide_eq_true h; exact z) fun _ _ _ => rp_int _
def fFdiv : D → D → Mem → Res D := fInt (fun _ j => decide (0 < j ∧ j.natAbs.log2 < 9000)) fun i j => .int (i / j)
theorem ops_fdiv : OpS K (rI CDivW fun i j => .int (i / j)) fFdiv := ops_int (fun _ _ h => by have z := of_decide_eq_true h; exact z) fun _ _ _ => rp_int _
def fMod : D → D → Mem → Res D := fInt (fun _ j => decide (0 < j)) fun i j => .int (i % j)
theorem ops_mod : OpS K (rI (fun _ j => 0 < j) fun i j => .int (i % j)) fMod := ops_int (fun _ _ h => by have z := of_decide_eq_true h; exact z) fun _ _ _ => rp_int _
def fPow : D → D → Mem → Res D := fInt (fun i j => decide (0 ≤ j ∧ j ≤ 1000000 ∧ i.natAbs < 2 ^ 64)) fun i j => .int (i ^ j.toNat)
theorem ops_pow : OpS K (rI CPow fun i j => .int (i ^ j.toNat)) fPow := ops_int (fun _ _ h => by have z := of_decide_eq_true h; exact z) fun _ _ _ => rp_int _
def fAddI : D → D → Mem → Res D := fInt (fun _ _ => true) fun i j => .int (i + j)
theorem ops_addI : OpS K (rI0 fun i j => .int (i + j)) fAddI := ops_int0 fun _ _ _ => rp_int _
def fAddS : D → D → Mem → Res D := fun x y M => match x, y with
  | .str i, .str j => if i.length + j.length ≤ sizeLine then .ok (.str (i ++ j)) M else .bad
  | _, _ => .bad
abbrev rAddSt : R2 := fun x y H Q => ∃ i j, x = .str i ∧ y = .str j ∧ i.length + j.length ≤ sizeLine ∧ Q (.str (i ++ j)) H
theorem ops_addS : OpS K rAddSt fAddS := fun hid M ad H dx dy x y Q E k rx ry q => by
  cases dx with
  | str i =>
    cases dy with
    | str j =>
      have q' : (pV K hid Q E).P M ad H (if i.length + j.length ≤ sizeLine then .ok (.str (i ++ j)) M else .bad) := q
      by_cases c : i.length + j.length ≤ sizeLine
      · rw [if_pos c] at q'
        exact ⟨i, j, by simpa only [Rp] using rx, by simpa only [Rp] using ry, c, q' _ ad H Fr.refl k (rp_str _)⟩
      · rw [if_neg c] at q'
        exact q'.elim
    | _ => exact q.elim
  | _ => exact q.elim
def fAddL : D → D → Mem → Res D := fun x y M => match x, y with
  | .lst i, .lst j => if i.length + j.length ≤ sizeLine then .ok (.lst (i ++ j)) M else .bad
  | _, _ => .bad
theorem ops_addL : OpS K rCat fAddL := fun hid M ad H dx dy x y Q E k rx ry q => by
  cases dx with
  | lst i =>
    cases dy with
    | lst j =>
      have q' : (pV K hid Q E).P M ad H (if i.length + j.length ≤ sizeLine then .ok (.lst (i ++ j)) M else .bad) := q
      by_cases c : i.length + j.length ≤ sizeLine
      · rw [if_pos c] at q'
        simp only [Rp] at rx ry
        obtain ⟨a, vs, e1, h1, h2⟩ := rx
        obtain ⟨b, ws, e2, h3, h4⟩ := ry
        refine ⟨a, b, vs, ws, e1, e2, h1.1, h3.1, by rw [h2.len, h4.len]; exact c, fun p hp => ?_⟩
        obtain ⟨f, k2, r2⟩ := new_lst k hp (h2.append h4)
        exact q' _ _ _ f k2 r2
      · rw [if_neg c] at q'
        exact q'.elim
    | _ => exact q.elim
  | _ => exact q.elim
def fAddT : D → D → Mem → Res D := fun x y M => match x, y with
  | .tup i, .tup j => if i.length + j.length ≤ sizeLine then .ok (.tup (i ++ j)) M else .bad
  | _, _ => .bad
theorem ops_addT : OpS K (rCatA K) fAddT := fun hid M ad H dx dy x y Q E k rx ry q => by
  cases dx with
  | tup i =>
    cases dy with
    | tup j =>
      have q' : (pV K hid Q E).P M ad H (if i.length + j.length ≤ sizeLine then .ok (.tup (i ++ j)) M else .bad) := q
      by_cases c : i.length + j.length ≤ sizeLine
      · rw [if_pos c] at q'
        have rx0 := rx
        have ry0 := ry
        simp only [Rp] at rx ry
        obtain ⟨a, vs, e1, h1, h2⟩ := rx
        obtain ⟨b, ws, e2, h3, h4⟩ := ry
        refine ⟨a, b, vs, ws, e1, e2, h1.sq, h3.sq, by rw [h2.len, h4.len]; exact c, fun z => ?_, fun _ z => ?_, fun _ _ p hp => ?_⟩
        · have z1 : i = [] := List.length_eq_zero_iff.mp (by rw [← h2.len, z]; rfl)
          refine q' _ ad H Fr.refl k ?_
          rw [z1, List.nil_append, ← e2]
          exact ry0
        · have z1 : j = [] := List.length_eq_zero_iff.mp (by rw [← h4.len, z]; rfl)
          refine q' _ ad H Fr.refl k ?_
          rw [z1, List.append_nil, ← e1]
          exact rx0
        · obtain ⟨f, k2, r2⟩ := new_tup k hp (h2.append h4)
          exact q' _ _ _ f k2 r2
      · rw [if_neg c] at q'
        exact q'.elim
    | _ => exact q.elim
  | _ => exact q.elim
def fAdd : D → D → Mem → Res D := fun x y M => (fAddI x y M).els ((fAddS x y M).els ((fAddL x y M).els (fAddT x y M)))
def rAddA (K : PySem.W.Frag) : R2 := fun x y H Q => (rI0 fun i j => .int (i + j)) x y H Q ∨ (rAddSt x y H Q ∨ (rCat x y H Q ∨ rCatA K x y H Q))
theorem ops_add : OpS K (rAddA K) fAdd := ops_addI.or (ops_addS.or (ops_addL.or ops_addT))
theorem opr_add {X : Cx} : OpR X (binaryOp .Add) (rAddA X.K) := op_add.or (op_add_str.or (op_cat.or op_catA))

/-! ### * of a list -/
def fMulL : D → D → Mem → Res D := fun x y M => match x, y with
  | .lst i, .int n => if 0 ≤ n ∧ n < 2 ^ 63 ∧ i.length * n.toNat ≤ sizeLine then .ok (.lst (List.replicate n.toNat i).flatten) M else .bad
  | _, _ => .bad
def fMul : D → D → Mem → Res D := fun x y M => (fMulI x y M).els (fMulL x y M)

/-! ### in -/
def fInSg (neg : Bool) : D → D → Mem → Res D := fun x y M => match x, y with
  | .str i, .str j => match i.cps.toList with
    | [c] => .ok (.bl (if neg then !decide (c ∈ j.cps.toList) else decide (c ∈ j.cps.toList))) M
    | _ => .bad
  | _, _ => .bad
theorem sg_of {i : Str} {c : Nat} (h : i.cps.toList = [c]) : i = ⟨#[c]⟩ := by
  obtain ⟨a⟩ := i
  have e : a = #[c] := by
    apply Array.toList_inj.mp
    exact h
  rw [e]
theorem ops_inSg : OpS K (fun x y H Q => ∃ (c : Nat) (z : Str), x = .str ⟨#[c]⟩ ∧ y = .str z ∧ Q (.bl (decide (c ∈ z.cps.toList))) H) (fInSg false) := fun hid M ad H dx dy x y Q E k rx ry q => by
  cases dx with
  | str i =>
    cases dy with
    | str j =>
      have ex : x = .str i := by simpa only [Rp] using rx
      have ey : y = .str j := by simpa only [Rp] using ry
      have q0 : (pV K hid Q E).P M ad H (match i.cps.toList with
        | [c] => .ok (.bl (decide (c ∈ j.cps.toList))) M
        | _ => .bad) := q
      cases e : i.cps.toList with
      | nil =>
        rw [e] at q0
        exact q0.elim
      | cons c r =>
        cases r with
        | nil =>
          rw [e] at q0
          exact ⟨c, j, by rw [ex, sg_of e], ey, q0 _ ad H Fr.refl k (rp_bl _)⟩
        | cons c2 r2 =>
          rw [e] at q0
          exact q0.elim
    | _ => exact q.elim
  | _ => exact q.elim
theorem ops_notInSg : OpS K (fun x y H Q => ∃ (c : Nat) (z : Str), x = .str ⟨#[c]⟩ ∧ y = .str z ∧ Q (.bl (!decide (c ∈ z.cps.toList))) H) (fInSg true) := fun hid M ad H dx dy x y Q E k rx ry q => by
  cases dx with
  | str i =>
    cases dy with
    | str j =>
      have ex : x = .str i := by simpa only [Rp] using rx
      have ey : y = .str j := by simpa only [Rp] using ry
      have q0 : (pV K hid Q E).P M ad H (match i.cps.toList with
        | [c] => .ok (.bl (!decide (c ∈ j.cps.toList))) M
        | _ => .bad) := q
      cases e : i.cps.toList with
      | nil =>
        rw [e] at q0
        exact q0.elim
      | cons c r =>
        cases r with
        | nil =>
          rw [e] at q0
          exact ⟨c, j, by rw [ex, sg_of e], ey, q0 _ ad H Fr.refl k (rp_bl _)⟩
        | cons c2 r2 =>
          rw [e] at q0
          exact q0.elim
    | _ => exact q.elim
  | _ => exact q.elim
def seqOf : D → Option (List D)
  | .lst ds => some ds
  | .tup ds => some ds
  | _ => none
theorem seqOf_rp {W : Wd} {d : D} {v : V} {ds : List D} (h : seqOf d = some ds) (r : Rp K W d v) : ∃ p vs, v = .ref p ∧ (SqL K W.H p vs ∨ SqT K W.H p vs) ∧ RpL K W ds vs := by
  cases d with
  | lst es =>
    cases h
    simp only [Rp] at r
    obtain ⟨a, vs, e, h1, h2⟩ := r
    exact ⟨a, vs, e, .inl (SqL.of h1.1), h2⟩
  | tup es =>
    cases h
    simp only [Rp] at r
    obtain ⟨a, vs, e, h1, h2⟩ := r
    exact ⟨a, vs, e, .inr h1.sq, h2⟩
  | _ => cases h
def fInSq (neg : Bool) : D → D → Mem → Res D := fun x y M => match scV x, (seqOf y).bind scL with
  | some u, some us => .ok (.bl (if neg then !inV u us else inV u us)) M
  | _, _ => .bad
theorem ops_inSq (neg : Bool) : OpS K (rIn K neg) (fInSq neg) := fun hid M ad H dx dy x y Q E k rx ry q => by
  unfold fInSq at q
  cases e1 : scV dx with
  | none =>
    rw [e1] at q
    exact q.elim
  | some u =>
    cases e3 : seqOf dy with
    | none =>
      rw [e1, e3] at q
      exact q.elim
    | some ds =>
      cases e2 : scL ds with
      | none =>
        rw [e1, e3] at q
        have q' : (pV K hid Q E).P M ad H (match (some u : Option V), scL ds with
          | some u, some us => .ok (.bl (if neg then !inV u us else inV u us)) M
          | _, _ => .bad) := q
        rw [e2] at q'
        exact q'.elim
      | some us =>
        rw [e1, e3] at q
        have q' : (pV K hid Q E).P M ad H (match (some u : Option V), scL ds with
          | some u, some us => .ok (.bl (if neg then !inV u us else inV u us)) M
          | _, _ => .bad) := q
        rw [e2] at q'
        obtain ⟨p, vs, e4, h1, h2⟩ := seqOf_rp e3 ry
        have e5 := scL_rp e2 h2
        subst e5
        have ex := scV_rp e1 rx
        subst ex
        exact ⟨p, vs, e4, h1, scV_flat e1, scL_flat e2, q' _ ad H Fr.refl k (rp_bl _)⟩
def fIn (neg : Bool) : D → D → Mem → Res D := fun x y M => (fInSg neg x y M).els (fInSq neg x y M)
def rInA (K : PySem.W.Frag) : R2 := fun x y H Q => (∃ (c : Nat) (z : Str), x = .str ⟨#[c]⟩ ∧ y = .str z ∧ Q (.bl (decide (c ∈ z.cps.toList))) H) ∨ rIn K false x y H Q
def rNotInA (K : PySem.W.Frag) : R2 := fun x y H Q => (∃ (c : Nat) (z : Str), x = .str ⟨#[c]⟩ ∧ y = .str z ∧ Q (.bl (!decide (c ∈ z.cps.toList))) H) ∨ rIn K true x y H Q
theorem ops_in : OpS K (rInA K) (fIn false) := ops_inSg.or (ops_inSq false)
theorem ops_notIn : OpS K (rNotInA K) (fIn true) := ops_notInSg.or (ops_inSq true)
theorem opr_in {X : Cx} : OpR X (compareOp .In) (rInA X.K) := op_in_sign.or op_in_seq
theorem opr_notIn {X : Cx} : OpR X (compareOp .NotIn) (rNotInA X.K) := op_notIn_sign.or op_notIn_seq

/-! ### subscripts, slices -/
def ixD {α : Type} (xs : List α) (i : Int) : Option α := atI xs i
theorem atI_rp {W : Wd} {ds : List D} {vs : List V} {i : Int} {d : D} (r : RpL K W ds vs) (h : atI ds i = some d) : ∃ v, atI vs i = some v ∧ Rp K W d v := by
  unfold atI at h ⊢
  rw [r.len]
  cases e : ixN ds.length i with
  | none =>
    rw [e] at h
    cases h
  | some j =>
    rw [e] at h
    exact r.get (show ds[j]? = some d from h)
def fIx : D → D → Mem → Res D := fun x y M => match x, y with
  | .lst ds, .int i => match atI ds i with
    | some d => .ok d M
    | none => .bad
  | .tup ds, .int i => match atI ds i with
    | some d => .ok d M
    | none => .bad
  | .str z, .int i => if z.length ≤ sizeLine then (match atI z.cps.toList i with
    | some c => .ok (.str ⟨#[c]⟩) M
    | none => .bad) else .bad
  | .obj j, .int i => match M[j]? with
    | some (.lst ds) => (match atI ds i with
      | some d => .ok d M
      | none => .bad)
    | _ => .bad
  | _, _ => .bad
theorem ops_ix : OpS K (rIx K) fIx := fun hid M ad H dx dy x y Q E k rx ry q => by
  cases dy with
  | int i =>
    have ey : y = .int i := by simpa only [Rp] using ry
    cases dx with
    | lst ds =>
      simp only [Rp] at rx
      obtain ⟨a, vs, e, h1, h2⟩ := rx
      have q' : (pV K hid Q E).P M ad H (match atI ds i with
        | some d => .ok d M
        | none => .bad) := q
      cases e2 : atI ds i with
      | none =>
        rw [e2] at q'
        exact q'.elim
      | some d =>
        rw [e2] at q'
        obtain ⟨v, h3, h4⟩ := atI_rp h2 e2
        exact .inl ⟨a, vs, i, v, e, ey, SqL.of h1.1, h3, q' v ad H Fr.refl k h4⟩
    | tup ds =>
      simp only [Rp] at rx
      obtain ⟨a, vs, e, h1, h2⟩ := rx
      have q' : (pV K hid Q E).P M ad H (match atI ds i with
        | some d => .ok d M
        | none => .bad) := q
      cases e2 : atI ds i with
      | none =>
        rw [e2] at q'
        exact q'.elim
      | some d =>
        rw [e2] at q'
        obtain ⟨v, h3, h4⟩ := atI_rp h2 e2
        exact .inr (.inl ⟨a, vs, i, v, e, ey, h1.sq, h3, q' v ad H Fr.refl k h4⟩)
    | str z =>
      have q' : (pV K hid Q E).P M ad H (if z.length ≤ sizeLine then (match atI z.cps.toList i with
        | some c => .ok (.str ⟨#[c]⟩) M
        | none => .bad) else .bad) := q
      by_cases c : z.length ≤ sizeLine
      · rw [if_pos c] at q'
        cases e2 : atI z.cps.toList i with
        | none =>
          rw [e2] at q'
          exact q'.elim
        | some c2 =>
          rw [e2] at q'
          exact .inr (.inr ⟨z, i, c2, by simpa only [Rp] using rx, ey, c, e2, q' _ ad H Fr.refl k (rp_str _)⟩)
      · rw [if_neg c] at q'
        exact q'.elim
    | obj j =>
      simp only [Rp] at rx
      obtain ⟨a, e, h1⟩ := rx
      have q' : (pV K hid Q E).P M ad H (match M[j]? with
        | some (.lst ds) => (match atI ds i with
          | some d => .ok d M
          | none => .bad)
        | _ => .bad) := q
      cases e3 : M[j]? with
      | none =>
        rw [e3] at q'
        exact q'.elim
      | some o =>
        rw [e3] at q'
        cases o with
        | lst ds =>
          obtain ⟨vs, h2, h5⟩ := k.ob j _ a e3 h1
          have q'' : (pV K hid Q E).P M ad H (match atI ds i with
            | some d => .ok d M
            | none => .bad) := q'
          cases e2 : atI ds i with
          | none =>
            rw [e2] at q''
            exact q''.elim
          | some d =>
            rw [e2] at q''
            obtain ⟨v, h3, h4⟩ := atI_rp h5 e2
            exact .inl ⟨a, vs, i, v, e, ey, SqL.of h2, h3, q'' v ad H Fr.refl k h4⟩
        | _ => exact q'.elim
    | _ => exact q.elim
  | _ => cases dx <;> exact q.elim
end
end DL

set_option maxHeartbeats 4000000
/-! DL, part e: targets, sources of loops, comprehensions, statements -/
namespace DL
open PySem PySem.Spec PyProof.Rows L2
abbrev W0 : WX := fun _ _ _ _ => False

/-! ### the state at a statement -/
def ow (ρ : Rho) (σ : L2.St) (a : Addr) : Prop := ∃ (i : Nat) (o : MO), ρ[i]? = some (Sl.own o) ∧ σ[i]? = some (some (V.ref a))
def hS (hid : Addr → Prop) (ρ : Rho) (σ : L2.St) (a : Addr) : Prop := hid a ∨ ow ρ σ a
structure StS (K : PySem.W.Frag) (hid : Addr → Prop) (M : Mem) (ad : List Addr) (H : Hp) (ρ : Rho) (σ : L2.St) : Prop where
  ok : Ok K (hS hid ρ σ) M ad H
  rp : RpS K (hS hid ρ σ) M ad H ρ σ
  nh : ∀ a, ow ρ σ a → ¬ hid a
structure FrG (hid h1 h2 : Addr → Prop) (M : Mem) (ad : List Addr) (H : Hp) (M' : Mem) (ad' : List Addr) (H' : Hp) : Prop where
  le : Le (wd h1 M ad H) (wd h2 M' ad' H')
  hidk : ∀ a, hid a → H' a = H a
  dom : ∀ a, H a ≠ none → H' a ≠ none
theorem FrG.trans {hid h1 h2 h3 : Addr → Prop} {M M1 M2 : Mem} {ad ad1 ad2 : List Addr} {H H1 H2 : Hp} (a : FrG hid h1 h2 M ad H M1 ad1 H1) (b : FrG hid h2 h3 M1 ad1 H1 M2 ad2 H2) : FrG hid h1 h3 M ad H M2 ad2 H2 :=
  ⟨a.le.trans b.le, fun c h => (b.hidk c h).trans (a.hidk c h), fun c h => b.dom c (a.dom c h)⟩
theorem FrG.of {hid h : Addr → Prop} {M M1 : Mem} {ad ad1 : List Addr} {H H1 : Hp} (f : Fr h M ad H M1 ad1 H1) (hh : ∀ a, hid a → h a) : FrG hid h h M ad H M1 ad1 H1 := ⟨f.le, fun a z => f.hidk a (hh a z), f.dom⟩
theorem FrG.refl {hid h : Addr → Prop} {M : Mem} {ad : List Addr} {H : Hp} : FrG hid h h M ad H M ad H := ⟨Le.refl _, fun _ _ => rfl, fun _ z => z⟩
theorem FrG.fr {hid : Addr → Prop} {M M1 : Mem} {ad ad1 : List Addr} {H H1 : Hp} (f : FrG hid hid hid M ad H M1 ad1 H1) : Fr hid M ad H M1 ad1 H1 := ⟨f.le, f.hidk, f.dom⟩

inductive Fl where
  | nx (ρ : Rho) | rt (d : D) | bk (ρ : Rho) | ct (ρ : Rho) | ex (ρ : Rho) (c : Str) (ns : List Str) (ds : List D)
abbrev SS := Rho → Mem → Res Fl
def PostS (K : PySem.W.Frag) (W : WX) (hid h1 : Addr → Prop) (M : Mem) (ad : List Addr) (H : Hp) (E : Ends) : Res Fl → Prop
  | .ok (.nx ρ') M' => ∀ σ' ad' H', FrG hid h1 (hS hid ρ' σ') M ad H M' ad' H' → StS K hid M' ad' H' ρ' σ' → E.nx σ' H'
  | .ok (.bk ρ') M' => ∀ σ' ad' H', FrG hid h1 (hS hid ρ' σ') M ad H M' ad' H' → StS K hid M' ad' H' ρ' σ' → E.bk σ' H'
  | .ok (.ct ρ') M' => ∀ σ' ad' H', FrG hid h1 (hS hid ρ' σ') M ad H M' ad' H' → StS K hid M' ad' H' ρ' σ' → E.ct σ' H'
  | .ok (.rt d) M' => ∀ v ad' H', FrG hid h1 hid M ad H M' ad' H' → Ok K hid M' ad' H' → Rp K (wd hid M' ad' H') d v → E.rt v H'
  | .ok (.ex ρ' c ns ds) M' => ∀ σ' dx es ad' H', FrG hid h1 (hS hid ρ' σ') M ad H M' ad' H' → StS K hid M' ad' H' ρ' σ' → es.map (·.1) = ns → H' dx = some (.xd es) → RpL K (wd hid M' ad' H') ds (es.map (·.2)) → W (.ref (He.ga K c)) (some dx) σ' H'
  | _ => False
def SndS (K : PySem.W.Frag) (W : WX) (ts : TS) (m : SS) : Prop := ∀ (hid : Addr → Prop) (σ : L2.St) (ρ : Rho) (M : Mem) (ad : List Addr) (H : Hp) (E : Ends), StS K hid M ad H ρ σ →
  PostS K W hid (hS hid ρ σ) M ad H E (m ρ M) → ts E σ H
section
variable {K : PySem.W.Frag} {hid h1 h2 : Addr → Prop} {M M1 : Mem} {ad ad1 : List Addr} {H H1 : Hp} {σ : L2.St} {ρ : Rho} {W : WX}
theorem PostS.fr {E : Ends} (f : FrG hid h1 h2 M ad H M1 ad1 H1) : ∀ {r : Res Fl}, PostS K W hid h1 M ad H E r → PostS K W hid h2 M1 ad1 H1 E r
  | .ok (.nx ρ') M', h => fun σ' ad' H' g s => h σ' ad' H' (f.trans g) s
  | .ok (.bk ρ') M', h => fun σ' ad' H' g s => h σ' ad' H' (f.trans g) s
  | .ok (.ct ρ') M', h => fun σ' ad' H' g s => h σ' ad' H' (f.trans g) s
  | .ok (.rt d) M', h => fun v ad' H' g k r => h v ad' H' (f.trans g) k r
  | .ok (.ex ρ' c ns ds) M', h => fun σ' dx es ad' H' g s => h σ' dx es ad' H' (f.trans g) s
  | .exc _ _ _ _, h => h
  | .bad, h => h
/-- an expression's outcome in a statement -/
def liftE {α : Type} (r : Res α) (ρ : Rho) (f : α → Mem → Res Fl) : Res Fl := match r with
  | .ok a M => f a M
  | .exc c ns ds M => .ok (.ex ρ c ns ds) M
  | .bad => .bad
theorem StS.fr (s : StS K hid M ad H ρ σ) (f : Fr (hS hid ρ σ) M ad H M1 ad1 H1) (k : Ok K (hS hid ρ σ) M1 ad1 H1) : StS K hid M1 ad1 H1 ρ σ := ⟨k, s.rp.fr f, s.nh⟩
theorem StS.unhid (s : StS K hid M ad H ρ σ) : Ok K hid M ad H := s.ok.unhid fun _ z => .inl z
theorem Rp.unhid {hid' : Addr → Prop} (h : ∀ a, hid a → hid' a) {d : D} {v : V} (r : Rp K (wd hid' M ad H) d v) : Rp K (wd hid M ad H) d v := Rp.le (Le.unhid h) d r
theorem RpL.unhid {hid' : Addr → Prop} (h : ∀ a, hid a → hid' a) {d : List D} {v : List V} (r : RpL K (wd hid' M ad H) d v) : RpL K (wd hid M ad H) d v := RpL.le (Le.unhid h) d r
theorem Snd.stepS {te : TE} {m : SE} {E : Ends} (s : Snd K W te m) (st : StS K hid M ad H ρ σ) {f : D → Mem → Res Fl} (h : PostS K W hid (hS hid ρ σ) M ad H E (liftE (m ρ M) ρ f)) {R : VK}
    (nx : ∀ d M1 x ad1 H1, Fr (hS hid ρ σ) M ad H M1 ad1 H1 → StS K hid M1 ad1 H1 ρ σ → Rp K (wd (hS hid ρ σ) M1 ad1 H1) d x → PostS K W hid (hS hid ρ σ) M1 ad1 H1 E (f d M1) → R x H1) : te σ H R := by
  refine s _ σ ρ M ad H R st.ok st.rp ?_
  cases e : m ρ M with
  | ok d M1 =>
    rw [e] at h
    exact fun v ad1 H1 f1 k1 rp => nx d M1 v ad1 H1 f1 (st.fr f1 k1) rp (PostS.fr (FrG.of f1 fun _ z => .inl z) h)
  | exc c ns ds M1 =>
    rw [e] at h
    intro dx es ad' H' f1 k1 e1 e2 e3
    exact h σ dx es ad' H' (FrG.of f1 fun _ z => .inl z) (st.fr f1 k1) e1 e2 (RpL.unhid (fun _ z => .inl z) e3)
  | bad =>
    rw [e] at h
    exact h
theorem SndT.stepS {tt : TT} {m : ST} {E : Ends} (s : SndT K W tt m) (st : StS K hid M ad H ρ σ) {f : Bool → Mem → Res Fl} (h : PostS K W hid (hS hid ρ σ) M ad H E (liftE (m ρ M) ρ f)) {R : Bool → Hp → Prop}
    (nx : ∀ b M1 ad1 H1, Fr (hS hid ρ σ) M ad H M1 ad1 H1 → StS K hid M1 ad1 H1 ρ σ → PostS K W hid (hS hid ρ σ) M1 ad1 H1 E (f b M1) → R b H1) : tt σ H R := by
  refine s _ σ ρ M ad H R st.ok st.rp ?_
  cases e : m ρ M with
  | ok d M1 =>
    rw [e] at h
    exact fun ad1 H1 f1 k1 => nx d M1 ad1 H1 f1 (st.fr f1 k1) (PostS.fr (FrG.of f1 fun _ z => .inl z) h)
  | exc c ns ds M1 =>
    rw [e] at h
    intro dx es ad' H' f1 k1 e1 e2 e3
    exact h σ dx es ad' H' (FrG.of f1 fun _ z => .inl z) (st.fr f1 k1) e1 e2 (RpL.unhid (fun _ z => .inl z) e3)
  | bad =>
    rw [e] at h
    exact h
theorem SndA.stepS {ta : TA} {m : SA} {E : Ends} (s : SndA K W ta m) (st : StS K hid M ad H ρ σ) {f : List D → Mem → Res Fl} (h : PostS K W hid (hS hid ρ σ) M ad H E (liftE (m ρ M) ρ f)) {R : List V → Hp → Prop}
    (nx : ∀ ds M1 xs ad1 H1, Fr (hS hid ρ σ) M ad H M1 ad1 H1 → StS K hid M1 ad1 H1 ρ σ → RpL K (wd (hS hid ρ σ) M1 ad1 H1) ds xs → PostS K W hid (hS hid ρ σ) M1 ad1 H1 E (f ds M1) → R xs H1) : ta σ H R := by
  refine s _ σ ρ M ad H R st.ok st.rp ?_
  cases e : m ρ M with
  | ok d M1 =>
    rw [e] at h
    exact fun v ad1 H1 f1 k1 rp => nx d M1 v ad1 H1 f1 (st.fr f1 k1) rp (PostS.fr (FrG.of f1 fun _ z => .inl z) h)
  | exc c ns ds M1 =>
    rw [e] at h
    intro dx es ad' H' f1 k1 e1 e2 e3
    exact h σ dx es ad' H' (FrG.of f1 fun _ z => .inl z) (st.fr f1 k1) e1 e2 (RpL.unhid (fun _ z => .inl z) e3)
  | bad =>
    rw [e] at h
    exact h

/-! ### blocks, branches, ends -/
def mNext : SS := fun ρ M => .ok (.nx ρ) M
def mSeq (m n : SS) : SS := fun ρ M => (m ρ M).bind fun fl M1 => match fl with
  | .nx ρ1 => n ρ1 M1
  | .rt d => .ok (.rt d) M1
  | .bk ρ1 => .ok (.bk ρ1) M1
  | .ct ρ1 => .ok (.ct ρ1) M1
  | .ex ρ1 c ns ds => .ok (.ex ρ1 c ns ds) M1
theorem snd_next : SndS K W tNext mNext := fun hid σ ρ M ad H E st h => h σ ad H FrG.refl st
theorem snd_seq {t u : TS} {m n : SS} (h1 : SndS K W t m) (h2 : SndS K W u n) : SndS K W (tSeq t u) (mSeq m n) := fun hid σ ρ M ad H E st h => by
  refine h1 hid σ ρ M ad H { E with nx := u E } st ?_
  have h' : PostS K W hid (hS hid ρ σ) M ad H E ((m ρ M).bind fun fl M1 => match fl with
    | .nx ρ1 => n ρ1 M1
    | .rt d => .ok (.rt d) M1
    | .bk ρ1 => .ok (.bk ρ1) M1
    | .ct ρ1 => .ok (.ct ρ1) M1
    | .ex ρ1 c ns ds => .ok (.ex ρ1 c ns ds) M1) := h
  cases e : m ρ M with
  | ok fl M1 =>
    rw [e] at h'
    cases fl with
    | nx ρ1 => exact fun σ1 ad1 H1 f s => h2 hid σ1 ρ1 M1 ad1 H1 E s (PostS.fr f h')
    | rt d => exact h'
    | bk ρ1 => exact h'
    | ct ρ1 => exact h'
    | ex ρ1 c ns ds => exact h'
  | exc c ns ds M1 =>
    rw [e] at h'
    exact h'
  | bad =>
    rw [e] at h'
    exact h'
def mIfS (t : ST) (m n : SS) : SS := fun ρ M => liftE (t ρ M) ρ fun b M1 => if b = true then m ρ M1 else n ρ M1
theorem snd_ifS {tt : TT} {t u : TS} {c : ST} {m n : SS} (h0 : SndT K W tt c) (h1 : SndS K W t m) (h2 : SndS K W u n) : SndS K W (tIfS tt t u) (mIfS c m n) := fun hid σ ρ M ad H E st h => by
  refine h0.stepS st h fun b M1 ad1 H1 f s q => ?_
  cases b with
  | true =>
    rw [if_pos rfl] at q
    exact iteT (h1 hid σ ρ M1 ad1 H1 E s q)
  | false =>
    rw [if_neg (by decide)] at q
    exact iteF (h2 hid σ ρ M1 ad1 H1 E s q)
def mRet (m : SE) : SS := fun ρ M => liftE (m ρ M) ρ fun d M1 => .ok (.rt d) M1
theorem snd_ret {te : TE} {m : SE} (h : Snd K W te m) : SndS K W (tRet te) (mRet m) := fun hid σ ρ M ad H E st q => by
  refine h.stepS st q fun d M1 x ad1 H1 f s r q => ?_
  exact q x ad1 H1 ⟨Le.unhid fun _ z => .inl z, fun _ _ => rfl, fun _ z => z⟩ s.unhid (Rp.unhid (fun _ z => .inl z) r)
def mRetN : SS := fun ρ M => .ok (.rt .non) M
theorem snd_retN : SndS K W tRetN mRetN := fun hid σ ρ M ad H E st q => q .non ad H ⟨Le.unhid fun _ z => .inl z, fun _ _ => rfl, fun _ z => z⟩ st.unhid (by simp [Rp])
def mDrop (m : SE) : SS := fun ρ M => liftE (m ρ M) ρ fun _ M1 => .ok (.nx ρ) M1
theorem snd_drop {te : TE} {m : SE} (h : Snd K W te m) : SndS K W (tDrop te) (mDrop m) := fun hid σ ρ M ad H E st q => by
  refine h.stepS st q fun d M1 x ad1 H1 f s r q => ?_
  exact q σ ad1 H1 FrG.refl s
def mBreak : SS := fun ρ M => .ok (.bk ρ) M
def mCont : SS := fun ρ M => .ok (.ct ρ) M
theorem snd_break : SndS K W tBreak mBreak := fun hid σ ρ M ad H E st h => h σ ad H FrG.refl st
theorem snd_cont : SndS K W tCont mCont := fun hid σ ρ M ad H E st h => h σ ad H FrG.refl st

/-! ### stores -/
/-- what a slot owns behind a store it owned before -/
def OwnSub (ρ : Rho) (σ : L2.St) (ρ' : Rho) (σ' : L2.St) : Prop := ∀ (j : Nat) (o : MO), ρ'[j]? = some (.own o) → ρ[j]? = some (.own o) ∧ σ'[j]? = σ[j]?
theorem OwnSub.refl : OwnSub ρ σ ρ σ := fun _ _ e => ⟨e, rfl⟩
theorem OwnSub.trans {ρ' ρ'' : Rho} {σ' σ'' : L2.St} (a : OwnSub ρ σ ρ' σ') (b : OwnSub ρ' σ' ρ'' σ'') : OwnSub ρ σ ρ'' σ'' := fun j o e =>
  let ⟨e1, e2⟩ := b j o e
  let ⟨e3, e4⟩ := a j o e1
  ⟨e3, e2.trans e4⟩
theorem set_own {i : Nat} {d : D} {j : Nat} {o : MO} (e : (ρ.set i (Sl.val d))[j]? = some (.own o)) : j ≠ i ∧ ρ[j]? = some (.own o) := by
  by_cases c : i = j
  · subst c
    rw [List.getElem?_set_self'] at e
    cases q : ρ[i]? with
    | none =>
      rw [q] at e
      cases e
    | some z =>
      rw [q] at e
      cases e
  · rw [List.getElem?_set_ne c] at e
    exact ⟨fun z => c z.symm, e⟩
theorem RpS.put {i : Nat} {d : D} {v : V} (rp : RpS K hid M ad H ρ σ) (r : Rp K (wd hid M ad H) d v) :
    RpS K hid M ad H (ρ.set i (.val d)) (σ.set i (some v)) ∧ OwnSub ρ σ (ρ.set i (.val d)) (σ.set i (some v)) := by
  have sub : OwnSub ρ σ (ρ.set i (.val d)) (σ.set i (some v)) := fun j o e => by
    obtain ⟨ne, e3⟩ := set_own e
    exact ⟨e3, List.getElem?_set_ne (fun z => ne z.symm)⟩
  refine ⟨⟨?_, ?_, ?_, ?_⟩, sub⟩
  · rw [List.length_set, List.length_set, rp.len]
  · intro j u e
    by_cases c : i = j
    · subst c
      rw [List.getElem?_set_self'] at e ⊢
      cases q : ρ[i]? with
      | none =>
        rw [q] at e
        cases e
      | some z =>
        rw [q] at e
        cases e
        have hl : i < σ.length := by
          rw [rp.len]
          exact (List.getElem?_eq_some_iff.mp q).1
        exact ⟨v, by rw [List.getElem?_eq_getElem hl] <;> rfl, r⟩
    · rw [List.getElem?_set_ne c] at e ⊢
      exact rp.val j u e
  · intro j o e
    obtain ⟨e3, e4⟩ := sub j o e
    obtain ⟨a, g1, g2, g3⟩ := rp.own j o e3
    exact ⟨a, e4.trans g1, g2, g3⟩
  · intro j l o u a e1 e2 e3 e4
    obtain ⟨e1, q1⟩ := sub j o e1
    obtain ⟨e2, q2⟩ := sub l u e2
    exact rp.inj j l o u a e1 e2 (q1 ▸ e3) (q2 ▸ e4)
/-- behind stores that own nothing new -/
theorem StS.sub {ρ' : Rho} {σ' : L2.St} (st : StS K hid M ad H ρ σ) (rp : RpS K (hS hid ρ σ) M ad H ρ' σ') (os : OwnSub ρ σ ρ' σ') : StS K hid M ad H ρ' σ' ∧ FrG hid (hS hid ρ σ) (hS hid ρ' σ') M ad H M ad H := by
  have sub : ∀ a, hS hid ρ' σ' a → hS hid ρ σ a := by
    rintro a (z | ⟨j, o, e1, e2⟩)
    · exact .inl z
    · obtain ⟨e3, e4⟩ := os j o e1
      exact .inr ⟨j, o, e3, e4 ▸ e2⟩
  refine ⟨⟨st.ok.unhid sub, ⟨rp.len, fun i d e => ?_, fun i o e => ?_, rp.inj⟩, ?_⟩, ⟨Le.unhid sub, fun _ _ => rfl, fun _ z => z⟩⟩
  · obtain ⟨v, g1, g2⟩ := rp.val i d e
    exact ⟨v, g1, Rp.unhid sub g2⟩
  · obtain ⟨a, g1, g2, g3⟩ := rp.own i o e
    exact ⟨a, g1, .inr ⟨i, o, e, g1⟩, MOk.le (Le.unhid sub) rfl g3⟩
  · rintro a ⟨j, o, e1, e2⟩
    obtain ⟨e3, e4⟩ := os j o e1
    exact st.nh a ⟨j, o, e3, e4 ▸ e2⟩
theorem StS.put {i : Nat} {d : D} {v : V} (st : StS K hid M ad H ρ σ) (r : Rp K (wd (hS hid ρ σ) M ad H) d v) :
    StS K hid M ad H (ρ.set i (.val d)) (σ.set i (some v)) ∧ FrG hid (hS hid ρ σ) (hS hid (ρ.set i (.val d)) (σ.set i (some v))) M ad H M ad H := by
  obtain ⟨r1, r2⟩ := st.rp.put (i := i) r
  exact st.sub r1 r2
/-- targets: what a store makes of the slots -/
abbrev SG := D → Rho → Option Rho
def SndG (K : PySem.W.Frag) (g : TG) (m : SG) (is : List Nat) : Prop := ∀ (hid : Addr → Prop) (σ : L2.St) (ρ ρ' : Rho) (M : Mem) (ad : List Addr) (H : Hp) (d : D) (v : V) (R : L2.St → Hp → Prop), RpS K hid M ad H ρ σ →
  Rp K (wd hid M ad H) d v → m d ρ = some ρ' → (∀ σ', RpS K hid M ad H ρ' σ' → OwnSub ρ σ ρ' σ' → (∀ j, j ∉ is → σ'[j]? = σ[j]?) → σ'.length = σ.length → R σ' H) → g v σ H R
def mgName (i : Nat) : SG := fun d ρ => some (ρ.set i (.val d))
theorem sndg_name (i : Nat) : SndG K (gName i) (mgName i) [i] := fun hid σ ρ ρ' M ad H d v R st r e h => by
  have e' := Option.some.inj e
  subst e'
  obtain ⟨s1, s2⟩ := st.put (i := i) r
  exact h _ s1 s2 (fun j hj => List.getElem?_set_ne (fun z => hj (by rw [z]; exact List.mem_singleton_self _))) (by rw [List.length_set])
/-- several targets -/
abbrev SGs := List D → Rho → Option Rho
def SndGs (K : PySem.W.Frag) (g : TGs) (m : SGs) (is : List Nat) : Prop := ∀ (hid : Addr → Prop) (σ : L2.St) (ρ ρ' : Rho) (M : Mem) (ad : List Addr) (H : Hp) (ds : List D) (vs : List V) (R : L2.St → Hp → Prop), RpS K hid M ad H ρ σ →
  RpL K (wd hid M ad H) ds vs → m ds ρ = some ρ' → (∀ σ', RpS K hid M ad H ρ' σ' → OwnSub ρ σ ρ' σ' → (∀ j, j ∉ is → σ'[j]? = σ[j]?) → σ'.length = σ.length → R σ' H) → g vs σ H R
def mgNil : SGs := fun ds ρ => match ds with
  | [] => some ρ
  | _ :: _ => none
def mgCons (m : SG) (r : SGs) : SGs := fun ds ρ => match ds with
  | [] => none
  | d :: ds => (m d ρ).bind fun ρ1 => r ds ρ1
theorem sndg_nil : SndGs K gNil mgNil [] := fun hid σ ρ ρ' M ad H ds vs R st r e h => by
  cases ds with
  | nil =>
    have e' := Option.some.inj e
    subst e'
    exact ⟨r.nilI, h σ st OwnSub.refl (fun _ _ => rfl) rfl⟩
  | cons d ds => cases e
theorem sndg_cons {g : TG} {gs : TGs} {m : SG} {ms : SGs} {is js : List Nat} (h1 : SndG K g m is) (h2 : SndGs K gs ms js) : SndGs K (gCons g gs) (mgCons m ms) (is ++ js) := fun hid σ ρ ρ' M ad H ds vs R st r e h => by
  cases ds with
  | nil => cases e
  | cons d ds =>
    obtain ⟨v, rs, e1, r1, r2⟩ := r.consI
    refine ⟨v, rs, e1, ?_⟩
    have e' : (m d ρ).bind (fun ρ1 => ms ds ρ1) = some ρ' := e
    cases q : m d ρ with
    | none =>
      rw [q] at e'
      cases e'
    | some ρ1 =>
      rw [q] at e'
      refine h1 hid σ ρ ρ1 M ad H d v _ st r1 q fun σ1 s1 f1 o1 l1 => ?_
      refine h2 hid σ1 ρ1 ρ' M ad H ds rs _ s1 r2 e' fun σ2 s2 f2 o2 l2 => ?_
      refine h σ2 s2 (f1.trans f2) (fun j hj => ?_) (l2.trans l1)
      rw [List.mem_append] at hj
      exact (o2 j fun z => hj (.inr z)).trans (o1 j fun z => hj (.inl z))
def mgTup (n : Nat) (m : SGs) : SG := fun d ρ => match d with
  | .tup ds => if ds.length = n then m ds ρ else none
  | _ => none
theorem sndg_tup {n : Nat} {g : TGs} {m : SGs} {is : List Nat} (h1 : SndGs K g m is) : SndG K (gTup K n g) (mgTup n m) is := fun hid σ ρ ρ' M ad H d v R st r e h => by
  cases d with
  | tup ds =>
    simp only [Rp] at r
    obtain ⟨a, vs, e1, r1, r2⟩ := r
    have e' : (if ds.length = n then m ds ρ else none) = some ρ' := e
    by_cases c : ds.length = n
    · rw [if_pos c] at e'
      exact ⟨a, vs, e1, r1.sq, by rw [r2.len]; exact c, h1 hid σ ρ ρ' M ad H ds vs R st r2 e' h⟩
    · rw [if_neg c] at e'
      cases e'
  | _ => cases e
/-- target = e -/
def mAsg (m : SE) (g : SG) : SS := fun ρ M => liftE (m ρ M) ρ fun d M1 => match g d ρ with
  | some ρ1 => .ok (.nx ρ1) M1
  | none => .bad
theorem snd_asg {te : TE} {g : TG} {m : SE} {mg : SG} {is : List Nat} (h : Snd K W te m) (hg : SndG K g mg is) : SndS K W (tAsg te g) (mAsg m mg) := fun hid σ ρ M ad H E st q => by
  refine h.stepS st q fun d M1 x ad1 H1 f s r q => ?_
  cases e : mg d ρ with
  | none =>
    rw [e] at q
    exact q.elim
  | some ρ1 =>
    rw [e] at q
    refine hg _ σ ρ ρ1 M1 ad1 H1 d x _ s.rp r e fun σ1 r1 o1 _ _ => ?_
    obtain ⟨s1, f1⟩ := s.sub r1 o1
    exact q σ1 ad1 H1 f1 s1
/-- a, b = e1, e2 -/
def mPar (i j : Nat) (m : SA) : SS := fun ρ M => liftE (m ρ M) ρ fun ds M1 => match ds with
  | [d, e] => .ok (.nx ((ρ.set i (.val d)).set j (.val e))) M1
  | _ => .bad
theorem snd_par {i j : Nat} {ta : TA} {m : SA} (h : SndA K W ta m) : SndS K W (tPar i j ta) (mPar i j m) := fun hid σ ρ M ad H E st q => by
  refine h.stepS st q fun ds M1 xs ad1 H1 f s r q => ?_
  match ds, q with
  | [d, e], q =>
    obtain ⟨v, r1, e1, h1, h2⟩ := r.consI
    obtain ⟨w, r2, e2, h3, h4⟩ := h2.consI
    have e3 := h4.nilI
    subst e1 e2 e3
    obtain ⟨s1, f1⟩ := s.put (i := i) h1
    obtain ⟨s2, f2⟩ := s1.put (i := j) (Rp.le f1.le e h3)
    exact ⟨v, w, rfl, q _ ad1 H1 (f1.trans f2) s2⟩
  | [], q => exact q.elim
  | [_], q => exact q.elim
  | _ :: _ :: _ :: _, q => exact q.elim
end
end DL

set_option maxHeartbeats 4000000
/-! DL, part f: sources, comprehensions, loops, lists that a slot owns -/
namespace DL
open PySem PySem.Spec PyProof.Rows L2
/-- the iterator yields the items, as long as what is kept is kept -/
def Wk (K : PySem.W.Frag) (hid : Addr → Prop) (M : Mem) (ad : List Addr) (H : Hp) (J : It) (ds : List D) : Prop :=
  ∀ (hid' : Addr → Prop) (M' : Mem) (ad' : List Addr) (H' : Hp), Le (wd hid M ad H) (wd hid' M' ad' H') → Ok K hid' M' ad' H' →
    (∀ (i : Nat) (d : D), ds[i]? = some d → J.go i H' ∧ ∀ x H2, J.yld i H' x H2 → Fr hid' M' ad' H' M' ad' H2 ∧ Ok K hid' M' ad' H2 ∧ Rp K (wd hid' M' ad' H2) d x) ∧ J.stop ds.length H'
theorem Wk.le {K : PySem.W.Frag} {hid hid' : Addr → Prop} {M M' : Mem} {ad ad' : List Addr} {H H' : Hp} {J : It} {ds : List D} (w : Wk K hid M ad H J ds) (l : Le (wd hid M ad H) (wd hid' M' ad' H')) : Wk K hid' M' ad' H' J ds :=
  fun h2 M2 a2 H2 l2 k2 => w h2 M2 a2 H2 (l.trans l2) k2
abbrev SI := Rho → Mem → Res (List D)
def pI (K : PySem.W.Frag) (hid : Addr → Prop) (R : It → Hp → Prop) (E : XK) : Pk K hid E (List D) where
  P M ad H r := match r with
    | .ok ds M' => ∀ J ad' H', Fr hid M ad H M' ad' H' → Ok K hid M' ad' H' → Wk K hid M' ad' H' J ds → R J H'
    | .exc c ns ds M' => PostX K hid M ad H E c ns ds M'
    | .bad => False
  fr {M ad H M1 ad1 H1 r} f h := match r, h with
    | .ok d M', h => fun v ad' H' g k rp => h v ad' H' (f.trans g) k rp
    | .exc _ _ _ _, h => PostX.fr f h
    | .bad, h => h
  ex h := h
  no h := h
def SndI (K : PySem.W.Frag) (W : WX) (wi : TI) (m : SI) : Prop := ∀ (hid : Addr → Prop) (σ : L2.St) (ρ : Rho) (M : Mem) (ad : List Addr) (H : Hp) (R : It → Hp → Prop), Ok K hid M ad H → RpS K hid M ad H ρ σ →
  (pI K hid R (wx W σ)).P M ad H (m ρ M) → wi σ H R
section
variable {K : PySem.W.Frag} {hid h1 h2 : Addr → Prop} {M M1 : Mem} {ad ad1 : List Addr} {H H1 : Hp} {σ : L2.St} {ρ : Rho} {W : WX}

/-! ### sources -/
theorem rpl_at {W : Wd} {ds : List D} {vs : List V} (r : RpL K W ds vs) {i : Nat} {d : D} (e : ds[i]? = some d) : ∃ v, vs[i]? = some v ∧ Rp K W d v := r.get e
def mIList (m : SE) : SI := fun ρ M => (m ρ M).bind fun d M1 => match d with
  | .lst ds => .ok ds M1
  | _ => .bad
theorem sndi_list {te : TE} {m : SE} (s : Snd K W te m) : SndI K W (iList K te) (mIList m) := fun hid σ ρ M ad H R k r h => by
  refine s.step k r (pI K hid R (wx W σ)) h fun d M1 x ad1 H1 f1 k1 rx r1 h1 => ?_
  cases d with
  | lst ds =>
    simp only [Rp] at rx
    obtain ⟨a, vs, e, l1, l2⟩ := rx
    refine ⟨a, e, ⟨vs, SqL.of l1.1⟩, h1 (Itl K a) ad1 H1 Fr.refl k1 ?_⟩
    intro hid' M' ad' H' le k'
    have l1' := l1.le le
    have l2' := RpL.le le ds l2
    refine ⟨fun i d e1 => ?_, ⟨vs, SqL.of l1'.1, Nat.le_of_eq l2.len⟩⟩
    obtain ⟨v, e2, rv⟩ := l2'.get e1
    refine ⟨⟨vs, v, SqL.of l1'.1, e2⟩, fun x H2 y => ?_⟩
    obtain ⟨y1, y2⟩ := y
    subst y1
    have e3 := y2 vs (SqL.of l1'.1)
    rw [e2] at e3
    cases e3
    exact ⟨Fr.refl, k', rv⟩
  | _ => exact h1.elim
def mITup (m : SE) : SI := fun ρ M => (m ρ M).bind fun d M1 => match d with
  | .tup ds => .ok ds M1
  | _ => .bad
theorem sndi_tup {te : TE} {m : SE} (s : Snd K W te m) : SndI K W (iTup K te) (mITup m) := fun hid σ ρ M ad H R k r h => by
  refine s.step k r (pI K hid R (wx W σ)) h fun d M1 x ad1 H1 f1 k1 rx r1 h1 => ?_
  cases d with
  | tup ds =>
    simp only [Rp] at rx
    obtain ⟨a, vs, e, l1, l2⟩ := rx
    refine ⟨a, e, ⟨vs, l1.sq⟩, h1 (Itt K a) ad1 H1 Fr.refl k1 ?_⟩
    intro hid' M' ad' H' le k'
    have l1' := l1.le le
    have l2' := RpL.le le ds l2
    refine ⟨fun i d e1 => ?_, ⟨vs, l1'.sq, Nat.le_of_eq l2.len⟩⟩
    obtain ⟨v, e2, rv⟩ := l2'.get e1
    refine ⟨⟨vs, v, l1'.sq, e2⟩, fun x H2 y => ?_⟩
    obtain ⟨y1, y2⟩ := y
    subst y1
    have e3 := y2 vs l1'.sq
    rw [e2] at e3
    cases e3
    exact ⟨Fr.refl, k', rv⟩
  | _ => exact h1.elim
def intsD (lo : Int) (n : Nat) : List D := (List.range n).map fun (i : Nat) => D.int (lo + (i : Int))
theorem intsD_at {lo : Int} {n i : Nat} {d : D} (e : (intsD lo n)[i]? = some d) : i < n ∧ d = .int (lo + i) := by
  unfold intsD at e
  rw [List.getElem?_map] at e
  by_cases c : i < n
  · rw [List.getElem?_range c] at e
    exact ⟨c, (Option.some.inj e).symm⟩
  · rw [List.getElem?_eq_none (by simpa using c)] at e
    cases e
theorem intsD_len (lo : Int) (n : Nat) : (intsD lo n).length = n := by simp [intsD]
theorem wk_range {lo : Int} {n : Nat} : Wk K hid M ad H (Itr lo n) (intsD lo n) := fun hid' M' ad' H' le k' => by
  refine ⟨fun i d e1 => ?_, by rw [intsD_len]; exact Nat.le_refl _⟩
  obtain ⟨c, e2⟩ := intsD_at e1
  subst e2
  refine ⟨c, fun x H2 y => ?_⟩
  obtain ⟨y1, y2⟩ := y
  subst y1 y2
  exact ⟨Fr.refl, k', rp_int _⟩
def mRng1 (m : SA) : SI := fun ρ M => (m ρ M).bind fun ds M1 => match ds with
  | [.int j] => if -(2 ^ 62) ≤ j ∧ j < 2 ^ 62 then .ok (intsD 0 j.toNat) M1 else .bad
  | _ => .bad
theorem rpl_int1 {W : Wd} {j : Int} {vs : List V} (r : RpL K W [.int j] vs) : vs = [.int j] := by
  obtain ⟨v, r1, e1, h1, h2⟩ := r.consI
  have e2 := h2.nilI
  have e3 : v = .int j := by simpa only [Rp] using h1
  rw [e1, e2, e3]
theorem sndi_rng1 {ta : TA} {m : SA} (s : SndA K W ta m) : SndI K W (iRng1 ta) (mRng1 m) := fun hid σ ρ M ad H R k r h => by
  refine s.step k r (pI K hid R (wx W σ)) h fun ds M1 xs ad1 H1 f1 k1 rx r1 h1 => ?_
  match ds, h1, rx with
  | [.int j], h1, rx =>
    have h1' : (pI K hid R (wx W σ)).P M1 ad1 H1 (if -(2 ^ 62) ≤ j ∧ j < 2 ^ 62 then .ok (intsD 0 j.toNat) M1 else .bad) := h1
    by_cases c : -(2 ^ 62) ≤ j ∧ j < 2 ^ 62
    · rw [if_pos c] at h1'
      exact ⟨j, rpl_int1 rx, c.1, c.2, h1' _ ad1 H1 Fr.refl k1 wk_range⟩
    · rw [if_neg c] at h1'
      exact h1'.elim
  | [], h1, _ => exact h1.elim
  | .non :: _, h1, _ => exact h1.elim
  | .bl _ :: _, h1, _ => exact h1.elim
  | .str _ :: _, h1, _ => exact h1.elim
  | .ty _ :: _, h1, _ => exact h1.elim
  | .cls _ :: _, h1, _ => exact h1.elim
  | .lst _ :: _, h1, _ => exact h1.elim
  | .tup _ :: _, h1, _ => exact h1.elim
  | .dct _ _ :: _, h1, _ => exact h1.elim
  | .ins _ _ _ :: _, h1, _ => exact h1.elim
  | .obj _ :: _, h1, _ => exact h1.elim
  | .scr _ :: _, h1, _ => exact h1.elim
  | .int _ :: _ :: _, h1, _ => exact h1.elim
def mRng2 (m : SA) : SI := fun ρ M => (m ρ M).bind fun ds M1 => match ds with
  | [.int i, .int j] => if -(2 ^ 62) ≤ i ∧ i < 2 ^ 62 ∧ -(2 ^ 62) ≤ j ∧ j < 2 ^ 62 then .ok (intsD i (j - i).toNat) M1 else .bad
  | _ => .bad
theorem sndi_rng2 {ta : TA} {m : SA} (s : SndA K W ta m) : SndI K W (iRng2 ta) (mRng2 m) := fun hid σ ρ M ad H R k r h => by
  refine s.step k r (pI K hid R (wx W σ)) h fun ds M1 xs ad1 H1 f1 k1 rx r1 h1 => ?_
  have key : (∃ i j, ds = [.int i, .int j]) ∨ (pI K hid R (wx W σ)).P M1 ad1 H1 .bad := by
    match ds, h1 with
    | [.int i, .int j], _ => exact .inl ⟨i, j, rfl⟩
    | [], h1 => exact .inr h1
    | [_], h1 => cases ‹D› <;> exact .inr h1
    | [d, e], h1 => cases d <;> first | exact .inr h1 | (cases e <;> first | exact .inl ⟨_, _, rfl⟩ | exact .inr h1)
    | d :: e :: _ :: _, h1 => cases d <;> first | exact .inr h1 | (cases e <;> exact .inr h1)
  rcases key with ⟨i, j, e⟩ | z
  · subst e
    obtain ⟨v, r1, e1, g1, g2⟩ := rx.consI
    have e2 : v = .int i := by simpa only [Rp] using g1
    have e3 := rpl_int1 g2
    have h1' : (pI K hid R (wx W σ)).P M1 ad1 H1 (if -(2 ^ 62) ≤ i ∧ i < 2 ^ 62 ∧ -(2 ^ 62) ≤ j ∧ j < 2 ^ 62 then .ok (intsD i (j - i).toNat) M1 else .bad) := h1
    by_cases c : -(2 ^ 62) ≤ i ∧ i < 2 ^ 62 ∧ -(2 ^ 62) ≤ j ∧ j < 2 ^ 62
    · rw [if_pos c] at h1'
      exact ⟨i, j, by rw [e1, e2, e3], c, h1' _ ad1 H1 Fr.refl k1 wk_range⟩
    · rw [if_neg c] at h1'
      exact h1'.elim
  · exact z.elim
def signsD (x : Str) : List D := x.cps.toList.map fun c => D.str ⟨#[c]⟩
def mIStr (m : SE) : SI := fun ρ M => (m ρ M).bind fun d M1 => match d with
  | .str x => .ok (signsD x) M1
  | _ => .bad
theorem sndi_str {te : TE} {m : SE} (s : Snd K W te m) : SndI K W (iStr te) (mIStr m) := fun hid σ ρ M ad H R k r h => by
  refine s.step k r (pI K hid R (wx W σ)) h fun d M1 x ad1 H1 f1 k1 rx r1 h1 => ?_
  cases d with
  | str z =>
    have e : x = .str z := by simpa only [Rp] using rx
    refine ⟨z, e, h1 (Its z) ad1 H1 Fr.refl k1 ?_⟩
    intro hid' M' ad' H' le k'
    have hl : (signsD z).length = z.cps.size := by simp [signsD]
    refine ⟨fun i d e1 => ?_, by rw [hl]; exact Nat.le_refl _⟩
    unfold signsD at e1
    rw [List.getElem?_map] at e1
    cases q : z.cps.toList[i]? with
    | none =>
      rw [q] at e1
      cases e1
    | some c =>
      rw [q] at e1
      have e2 : D.str ⟨#[c]⟩ = d := Option.some.inj e1
      subst e2
      have q' : z.cps[i]? = some c := by simpa using q
      refine ⟨(by have z := (List.getElem?_eq_some_iff.mp q).1; simpa using z : i < _), fun x H2 y => ?_⟩
      obtain ⟨y1, c2, y2, y3⟩ := y
      rw [q'] at y2
      cases y2
      subst y1 y3
      exact ⟨Fr.refl, k', rp_str _⟩
  | _ => exact h1.elim
def mZip (m : SA) : SI := fun ρ M => (m ρ M).bind fun ds M1 => match ds with
  | [.lst xs, .lst ys] => .ok ((xs.zip ys).map fun p => D.tup [p.1, p.2]) M1
  | _ => .bad
theorem sndi_zip {ta : TA} {m : SA} (s : SndA K W ta m) : SndI K W (iZip K ta) (mZip m) := fun hid σ ρ M ad H R k r h => by
  refine s.step k r (pI K hid R (wx W σ)) h fun ds M1 xs ad1 H1 f1 k1 rx r1 h1 => ?_
  have key : (∃ i j, ds = [.lst i, .lst j]) ∨ (pI K hid R (wx W σ)).P M1 ad1 H1 .bad := by
    match ds, h1 with
    | [], h1 => exact .inr h1
    | [_], h1 => cases ‹D› <;> exact .inr h1
    | [d, e], h1 => cases d <;> first | exact .inr h1 | (cases e <;> first | exact .inl ⟨_, _, rfl⟩ | exact .inr h1)
    | d :: e :: _ :: _, h1 => cases d <;> first | exact .inr h1 | (cases e <;> exact .inr h1)
  rcases key with ⟨us, ws, e⟩ | z
  · subst e
    obtain ⟨v, r1, e1, g1, g2⟩ := rx.consI
    obtain ⟨w, r2, e2, g3, g4⟩ := g2.consI
    have e3 := g4.nilI
    simp only [Rp] at g1 g3
    obtain ⟨a, as, ea, la, ra⟩ := g1
    obtain ⟨b, bs, eb, lb, rb⟩ := g3
    refine ⟨a, b, as, bs, by rw [e1, e2, e3, ea, eb], SqL.of la.1, SqL.of lb.1, h1 (Itz K a b) ad1 H1 Fr.refl k1 ?_⟩
    intro hid' M' ad' H' le k'
    have la' := la.le le
    have lb' := lb.le le
    have ra' := RpL.le le us ra
    have rb' := RpL.le le ws rb
    refine ⟨fun i d e1 => ?_, ⟨as, bs, SqL.of la'.1, SqL.of lb'.1, ?_⟩⟩
    · rw [List.getElem?_map] at e1
      cases q : (us.zip ws)[i]? with
      | none =>
        rw [q] at e1
        cases e1
      | some p =>
        rw [q] at e1
        have e5 : D.tup [p.1, p.2] = d := Option.some.inj e1
        subst e5
        obtain ⟨q1, q2⟩ := List.getElem?_zip_eq_some.mp q
        obtain ⟨x, x1, x2⟩ := ra'.get q1
        obtain ⟨y, y1, y2⟩ := rb'.get q2
        refine ⟨⟨as, bs, x, y, SqL.of la'.1, SqL.of lb'.1, x1, y1⟩, fun z H2 t => ?_⟩
        obtain ⟨T, x', y', t1, t2, t3, t4, t5⟩ := t
        have x3 := t4 as (SqL.of la'.1)
        have y3 := t5 bs (SqL.of lb'.1)
        rw [x1] at x3
        rw [y1] at y3
        cases x3
        cases y3
        obtain ⟨f5, k5, r5⟩ := new_tup k' t2 (RpL.cons x2 (RpL.cons y2 RpL.nil))
        subst t1 t3
        exact ⟨f5, k5, r5⟩
    · rw [List.length_map, List.length_zip, ra.len, rb.len]
      omega
  · exact z.elim
end
end DL

set_option maxHeartbeats 4000000
/-! DL, part g: comprehensions, loops, lists that a slot owns -/
namespace DL
open PySem PySem.Spec PyProof.Rows L2
def Res.noX {α : Type} (r : Res α) : Res α := match r with
  | .ok a M => .ok a M
  | _ => .bad
def wipeR (ρ : Rho) : List Nat → Rho
  | [] => ρ
  | v :: vs => (wipeR ρ vs).set v .no
section
variable {K : PySem.W.Frag} {hid h1 h2 : Addr → Prop} {M M1 : Mem} {ad ad1 : List Addr} {H H1 : Hp} {σ : L2.St} {ρ : Rho} {W : WX}
theorem RpS.drop1 (r : RpS K hid M ad H ρ σ) (i : Nat) : RpS K hid M ad H (ρ.set i .no) (σ.set i none) := by
  have ne : ∀ (j : Nat) (z : Sl), (ρ.set i .no)[j]? = some z → z ≠ .no → i ≠ j ∧ ρ[j]? = some z := by
    intro j z e hz
    by_cases c : i = j
    · subst c
      rw [List.getElem?_set_self'] at e
      cases q : ρ[i]? with
      | none =>
        rw [q] at e
        cases e
      | some y =>
        rw [q] at e
        exact absurd (Option.some.inj e).symm hz
    · rw [List.getElem?_set_ne c] at e
      exact ⟨c, e⟩
  refine ⟨by rw [List.length_set, List.length_set, r.len], fun j d e => ?_, fun j o e => ?_, fun j l o u a e1 e2 e3 e4 => ?_⟩
  · obtain ⟨c, e'⟩ := ne j _ e (by intro z; cases z)
    rw [List.getElem?_set_ne c]
    exact r.val j d e'
  · obtain ⟨c, e'⟩ := ne j _ e (by intro z; cases z)
    rw [List.getElem?_set_ne c]
    exact r.own j o e'
  · obtain ⟨c1, e1⟩ := ne j _ e1 (by intro z; cases z)
    obtain ⟨c2, e2⟩ := ne l _ e2 (by intro z; cases z)
    rw [List.getElem?_set_ne c1] at e3
    rw [List.getElem?_set_ne c2] at e4
    exact r.inj j l o u a e1 e2 e3 e4
theorem RpS.wipe (r : RpS K hid M ad H ρ σ) : ∀ vs : List Nat, RpS K hid M ad H (wipeR ρ vs) (L2.wipe σ vs)
  | [] => r
  | v :: vs => (RpS.wipe r vs).drop1 v
theorem RpS.hide {p : Addr} {u : HO} (r : RpS K hid M ad H ρ σ) (hp : H p = none) (hh : ∀ a, hid a → H a ≠ none) : RpS K (hidA hid p) M ad (upd H p u) ρ σ :=
  ⟨r.len, fun i d e => let ⟨v, g1, g2⟩ := r.val i d e; ⟨v, g1, Rp.le (Le.hide hp) d g2⟩,
    fun i o e => let ⟨a, g1, g2, g3⟩ := r.own i o e; ⟨a, g1, .inl g2, MOk.le (Le.hide hp) (upd_ne (fun z => hh a g2 (by rw [z]; exact hp))) g3⟩, r.inj⟩
theorem RpS.hidSet {p : Addr} {u : HO} (r : RpS K hid M ad H ρ σ) (hp : hid p) (no : ¬ ow ρ σ p) : RpS K hid M ad (upd H p u) ρ σ :=
  ⟨r.len, fun i d e => let ⟨v, g1, g2⟩ := r.val i d e; ⟨v, g1, Rp.le (Le.hidSet hp) d g2⟩,
    fun i o e => let ⟨a, g1, g2, g3⟩ := r.own i o e; ⟨a, g1, g2, MOk.le (Le.hidSet hp) (upd_ne (fun z => no (z ▸ ⟨i, o, e, g1⟩))) g3⟩, r.inj⟩
theorem wipe_same : ∀ (vs : List Nat) (σ σ' : L2.St), σ'.length = σ.length → (∀ j, j ∉ vs → σ'[j]? = σ[j]?) → L2.wipe σ' vs = L2.wipe σ vs := by
  have wl : ∀ (vs : List Nat) (σ : L2.St), (L2.wipe σ vs).length = σ.length := fun vs σ => by
    induction vs with
    | nil => rfl
    | cons v vs ih =>
      show ((L2.wipe σ vs).set v none).length = σ.length
      rw [List.length_set, ih]
  have wi : ∀ (vs : List Nat) (σ : L2.St) (j : Nat), j ∈ vs → j < σ.length → (L2.wipe σ vs)[j]? = some none := fun vs σ j hj hl => by
    induction vs with
    | nil => cases hj
    | cons v vs ih =>
      show ((L2.wipe σ vs).set v none)[j]? = some none
      by_cases c : v = j
      · subst c
        rw [List.getElem?_set_self (by rw [wl]; exact hl)]
      · rw [List.getElem?_set_ne c]
        exact ih ((List.mem_cons.mp hj).resolve_left fun z => c z.symm)
  intro vs σ σ' hl h
  apply List.ext_getElem?
  intro j
  by_cases c : j ∈ vs
  · by_cases d : j < σ.length
    · rw [wi vs σ' j c (by rw [hl]; exact d), wi vs σ j c d]
    · rw [List.getElem?_eq_none (by rw [wl, hl]; omega), List.getElem?_eq_none (by rw [wl]; omega)]
  · rw [L2.wipe_out c, L2.wipe_out c, h j c]

/-! ### [e for x in .. if ..] -/
def lcGo (ρ : Rho) (mg : SG) (tt : ST) (te : SE) : List D → Mem → Res (List D)
  | [], M => .ok [] M
  | d :: r, M => match mg d ρ with
    | none => .bad
    | some ρ1 => (tt ρ1 M).noX.bind fun b M1 => if b = true then (te ρ1 M1).noX.bind fun y M2 => (lcGo ρ mg tt te r M2).bind fun ys M3 => .ok (y :: ys) M3 else lcGo ρ mg tt te r M1
def mLc (mi : SI) (mg : SG) (tt : ST) (te : SE) (vs : List Nat) : SE := fun ρ M => (mi ρ M).bind fun ds M1 => if ds.length ≤ sizeLine then (lcGo (wipeR ρ vs) mg tt te ds M1).bind fun ys M2 => .ok (.lst ys) M2 else .bad
theorem SndI.step {β : Type} {wi : TI} {m : SI} (s : SndI K W wi m) (k : Ok K hid M ad H) (r : RpS K hid M ad H ρ σ) (p : Pk K hid (wx W σ) β) {f : List D → Mem → Res β} (h : p.P M ad H ((m ρ M).bind f)) {R : It → Hp → Prop}
    (nx : ∀ ds M1 J ad1 H1, Fr hid M ad H M1 ad1 H1 → Ok K hid M1 ad1 H1 → Wk K hid M1 ad1 H1 J ds → RpS K hid M1 ad1 H1 ρ σ → p.P M1 ad1 H1 (f ds M1) → R J H1) : wi σ H R := by
  refine s hid σ ρ M ad H R k r ?_
  cases e : m ρ M with
  | ok d M1 =>
    rw [e] at h
    exact fun v ad1 H1 f1 k1 rp => nx d M1 v ad1 H1 f1 k1 rp (r.fr f1) (p.fr f1 h)
  | exc c ns ds M1 =>
    rw [e] at h
    exact p.ex h
  | bad =>
    rw [e] at h
    exact p.no h
theorem snd_lcF {wi : TI} {g : TG} {tt : TT} {te : TE} {vs is : List Nat} {mi : SI} {mg : SG} {mt : ST} {me : SE} (hi : SndI K W wi mi) (hg : SndG K g mg is) (hs : ∀ i ∈ is, i ∈ vs) (ht : SndT K W0 tt mt) (he : Snd K W0 te me) :
    SndF K W (tLc wi g tt te vs) (mLc mi mg mt me vs) := fun hid σ ρ M ad H Q k r h => by
  refine hi.step k r (pF K hid Q (wx W σ)) h fun ds M1 J ad1 H1 f1 k1 wk r1 h1 => ?_
  have h1' : (pF K hid Q (wx W σ)).P M1 ad1 H1 (if ds.length ≤ sizeLine then (lcGo (wipeR ρ vs) mg mt me ds M1).bind fun ys M2 => .ok (.lst ys) M2 else .bad) := h1
  by_cases c : ds.length ≤ sizeLine
  · rw [if_pos c] at h1'
    intro Da hD
    have nhD : ¬ hid Da := fun z => k1.hh Da z hD
    -- what is left to do behind i turns
    refine ⟨fun i m H' => m = ds.length - i ∧ i ≤ ds.length ∧ ∃ (M' : Mem) (ad' : List Addr) (acc : List V) (dacc : List D),
      Fr hid M1 ad1 H1 M' ad' H' ∧ Ok K (hidA hid Da) M' ad' H' ∧ RpS K (hidA hid Da) M' ad' H' (wipeR ρ vs) (L2.wipe σ vs) ∧ Wk K (hidA hid Da) M' ad' H' J ds ∧ H' Da = some (.lst acc) ∧ RpL K (wd (hidA hid Da) M' ad' H') dacc acc ∧ acc.length ≤ i ∧
      (pF K hid Q (wx W σ)).P M1 ad1 H1 ((lcGo (wipeR ρ vs) mg mt me (ds.drop i) M').bind fun ys M2 => .ok (.lst (dacc ++ ys)) M2), ⟨ds.length, by simp, Nat.zero_le _, M1, ad1, [], [], Fr.new hD (k1.fresh hD), k1.hide hD, (r1.hide hD k1.hh).wipe vs, wk.le (Le.hide hD), upd_same, RpL.nil, Nat.le_refl _, h1'⟩, ?_⟩
    rintro i m H' ⟨rfl, hi2, M', ad', acc, dacc, f', k', r', wk', hacc, racc, hla, q⟩
    by_cases hlt : i < ds.length
    · have e1 : ds[i]? = some ds[i] := List.getElem?_eq_getElem hlt
      have e2 : ds.drop i = ds[i] :: ds.drop (i + 1) := List.drop_eq_getElem_cons hlt
      rw [e2] at q
      obtain ⟨w1, _⟩ := wk' (hidA hid Da) M' ad' H' (Le.refl _) k'
      obtain ⟨go, yl⟩ := w1 i _ e1
      refine .inr ⟨go, _, fun H2 z => ⟨ds.length - (i + 1), by omega, rfl, hlt, z⟩, fun x H2 y => ?_⟩
      obtain ⟨f2, k2, rx⟩ := yl x H2 y
      have q1 : (pF K hid Q (wx W σ)).P M1 ad1 H1 ((match mg ds[i] (wipeR ρ vs) with
        | none => (Res.bad : Res (List D))
        | some ρ1 => (mt ρ1 M').noX.bind fun b M1 => if b = true then (me ρ1 M1).noX.bind fun y M2 => (lcGo (wipeR ρ vs) mg mt me (ds.drop (i + 1)) M2).bind fun ys M3 => .ok (y :: ys) M3 else lcGo (wipeR ρ vs) mg mt me (ds.drop (i + 1)) M1).bind fun ys M2 => .ok (.lst (dacc ++ ys)) M2) := q
      cases eg : mg ds[i] (wipeR ρ vs) with
      | none =>
        rw [eg] at q1
        exact q1.elim
      | some ρ1 =>
        rw [eg] at q1
        have q2 : (pF K hid Q (wx W σ)).P M1 ad1 H1 (((mt ρ1 M').noX.bind fun b M1 => if b = true then (me ρ1 M1).noX.bind fun y M2 => (lcGo (wipeR ρ vs) mg mt me (ds.drop (i + 1)) M2).bind fun ys M3 => .ok (y :: ys) M3 else lcGo (wipeR ρ vs) mg mt me (ds.drop (i + 1)) M1).bind fun ys M2 => .ok (.lst (dacc ++ ys)) M2) := q1
        refine hg _ (L2.wipe σ vs) (wipeR ρ vs) ρ1 M' ad' H2 ds[i] x _ (r'.fr f2) rx eg fun σ2 r2 _ o2 l2 => ⟨?_, ?_⟩
        · rw [wipe_same vs (L2.wipe σ vs) σ2 l2 (fun j hj => o2 j fun z => hj (hs j z))]
          exact wipe_same vs σ (L2.wipe σ vs) (L2.wipe_length σ vs) (fun j hj => L2.wipe_out hj)
        -- the test
        refine ht _ σ2 ρ1 M' ad' H2 _ k2 r2 ?_
        cases et : mt ρ1 M' with
        | exc _ _ _ _ =>
          rw [et] at q2
          exact q2.elim
        | bad =>
          rw [et] at q2
          exact q2.elim
        | ok b M3 =>
          rw [et] at q2
          intro ad3 H3 f3 k3
          have hid3 : ∀ {M4 : Mem} {ad4 : List Addr} {H4 : Hp}, Fr (hidA hid Da) M' ad' H' M4 ad4 H4 → Fr hid M1 ad1 H1 M4 ad4 H4 := fun {M4 ad4 H4} g => by
            refine ⟨⟨?_, fun a o e n => ?_⟩, fun a z => (g.hidk a (.inl z)).trans (f'.hidk a z), fun a z => g.dom a (f'.dom a z)⟩
            · obtain ⟨u1, e1⟩ := f'.le.pre
              obtain ⟨u2, e2⟩ := g.le.pre
              exact ⟨u1 ++ u2, by rw [show ad4 = ad' ++ u2 from e2, show ad' = ad1 ++ u1 from e1, List.append_assoc]⟩
            · obtain ⟨g1, g2⟩ := f'.le.keep a o e n
              have ne : a ≠ Da := fun z => by
                subst z
                have e' : H1 a = some o := e
                rw [hD] at e'
                cases e'
              obtain ⟨g3, g4⟩ := g.le.keep a o g1 fun z => z.elim (fun z => z.elim (fun z => g2 (.inl z)) ne) fun z => g2 (.inr z)
              exact ⟨g3, fun z => g4 (z.elim (fun z => .inl (.inl z)) .inr)⟩
          have fA := f2.trans f3
          cases b with
          | false =>
            rw [if_neg (by decide)]
            have q3 : (pF K hid Q (wx W σ)).P M1 ad1 H1 ((lcGo (wipeR ρ vs) mg mt me (ds.drop (i + 1)) M3).bind fun ys M2 => .ok (.lst (dacc ++ ys)) M2) := q2
            exact ⟨M3, ad3, acc, dacc, hid3 fA, k3, r'.fr fA, wk'.le fA.le, (fA.hidk Da (.inr rfl)).trans hacc, RpL.le fA.le dacc racc, Nat.le_succ_of_le hla, q3⟩
          | true =>
            rw [if_pos rfl]
            have q3 : (pF K hid Q (wx W σ)).P M1 ad1 H1 (((me ρ1 M3).noX.bind fun y M2 => (lcGo (wipeR ρ vs) mg mt me (ds.drop (i + 1)) M2).bind fun ys M3 => .ok (y :: ys) M3).bind fun ys M2 => .ok (.lst (dacc ++ ys)) M2) := q2
            refine he _ σ2 ρ1 M3 ad3 H3 _ k3 (r2.fr f3) ?_
            cases ee : me ρ1 M3 with
            | exc _ _ _ _ =>
              rw [ee] at q3
              exact q3.elim
            | bad =>
              rw [ee] at q3
              exact q3.elim
            | ok dy M4 =>
              rw [ee] at q3
              intro vy ad4 H4 f4 k4 ry
              have fB := fA.trans f4
              have q4 : (pF K hid Q (wx W σ)).P M1 ad1 H1 (((lcGo (wipeR ρ vs) mg mt me (ds.drop (i + 1)) M4).bind fun ys M3 => .ok (dy :: ys) M3).bind fun ys M2 => .ok (.lst (dacc ++ ys)) M2) := q3
              have hacc4 : H4 Da = some (.lst acc) := (fB.hidk Da (.inr rfl)).trans hacc
              refine ⟨acc, hacc4, Nat.lt_of_lt_of_le (Nat.lt_of_le_of_lt hla hlt) c, M4, ad4, acc ++ [vy], dacc ++ [dy], ?_, k4.hidSet (.inr rfl), ?_, ?_, upd_same, ?_, ?_, ?_⟩
              · have g := hid3 fB
                refine ⟨⟨g.le.pre, fun a o e n => ?_⟩, fun a z => ?_, fun a z => ?_⟩
                · obtain ⟨g1, g2⟩ := g.le.keep a o e n
                  have ne : a ≠ Da := fun z => by
                    subst z
                    have e' : H1 a = some o := e
                    rw [hD] at e'
                    cases e'
                  exact ⟨by show upd H4 Da _ a = _; rw [upd_ne ne]; exact g1, g2⟩
                · rw [upd_ne (fun e : a = Da => nhD (by rw [← e]; exact z))]
                  exact g.hidk a z
                · by_cases e : a = Da
                  · subst e
                    rw [upd_same]
                    simp
                  · rw [upd_ne e]
                    exact g.dom a z
              · refine (r'.fr fB).hidSet (.inr rfl) ?_
                rintro ⟨j, o, z1, z2⟩
                obtain ⟨a2, z3, z4, _⟩ := (r1.wipe vs).own j o z1
                rw [z2] at z3
                cases z3
                exact nhD z4
              · exact wk'.le (fB.le.trans (Le.hidSet (.inr rfl)))
              · exact (RpL.le (fB.le.trans (Le.hidSet (.inr rfl))) dacc racc).append (RpL.cons (Rp.le (Le.hidSet (.inr rfl)) dy ry) RpL.nil)
              · rw [List.length_append, List.length_singleton]
                omega
              · cases eg2 : lcGo (wipeR ρ vs) mg mt me (ds.drop (i + 1)) M4 with
                | ok ys M5 =>
                  rw [eg2] at q4
                  show (pF K hid Q (wx W σ)).P M1 ad1 H1 (.ok (.lst (dacc ++ [dy] ++ ys)) M5)
                  rw [List.append_assoc]
                  exact q4
                | exc _ _ _ _ =>
                  rw [eg2] at q4
                  exact q4
                | bad =>
                  rw [eg2] at q4
                  exact q4
    · have e : i = ds.length := by omega
      subst e
      obtain ⟨_, w2⟩ := wk' (hidA hid Da) M' ad' H' (Le.refl _) k'
      rw [List.drop_length] at q
      have q1 : (pF K hid Q (wx W σ)).P M1 ad1 H1 (.ok (.lst (dacc ++ [])) M') := q
      rw [List.append_nil] at q1
      exact .inl ⟨w2, q1 Da _ ad' H' rfl hD f' k' ⟨acc, hacc, racc⟩⟩
  · rw [if_neg c] at h1'
    exact h1'.elim
end
end DL

set_option maxHeartbeats 4000000
/-! DL, part h: for and while; what a def promises; calls; built-ins -/
namespace DL
open PySem PySem.Spec PyProof.Rows L2
section
variable {K : PySem.W.Frag} {hid h1 h2 : Addr → Prop} {M M1 : Mem} {ad ad1 : List Addr} {H H1 : Hp} {σ : L2.St} {ρ : Rho} {W : WX}
theorem SndI.stepS {wi : TI} {m : SI} {E : Ends} (s : SndI K W wi m) (st : StS K hid M ad H ρ σ) {f : List D → Mem → Res Fl} (h : PostS K W hid (hS hid ρ σ) M ad H E (liftE (m ρ M) ρ f)) {R : It → Hp → Prop}
    (nx : ∀ ds M1 J ad1 H1, Fr (hS hid ρ σ) M ad H M1 ad1 H1 → StS K hid M1 ad1 H1 ρ σ → Wk K (hS hid ρ σ) M1 ad1 H1 J ds → PostS K W hid (hS hid ρ σ) M1 ad1 H1 E (f ds M1) → R J H1) : wi σ H R := by
  refine s _ σ ρ M ad H R st.ok st.rp ?_
  cases e : m ρ M with
  | ok d M1 =>
    rw [e] at h
    exact fun v ad1 H1 f1 k1 rp => nx d M1 v ad1 H1 f1 (st.fr f1 k1) rp (PostS.fr (FrG.of f1 fun _ z => .inl z) h)
  | exc c ns ds M1 =>
    rw [e] at h
    intro dx es ad' H' f1 k1 e1 e2 e3
    exact h σ dx es ad' H' (FrG.of f1 fun _ z => .inl z) (st.fr f1 k1) e1 e2 (RpL.unhid (fun _ z => .inl z) e3)
  | bad =>
    rw [e] at h
    exact h
/-! ### for -/
def forGo (mg : SG) (mb : SS) : List D → SS
  | [], ρ, M => .ok (.nx ρ) M
  | d :: r, ρ, M => match mg d ρ with
    | none => .bad
    | some ρ1 => (mb ρ1 M).bind fun fl M1 => match fl with
      | .nx ρ2 => forGo mg mb r ρ2 M1
      | .ct ρ2 => forGo mg mb r ρ2 M1
      | .bk ρ2 => .ok (.nx ρ2) M1
      | .rt d => .ok (.rt d) M1
      | .ex ρ2 c ns ds => .ok (.ex ρ2 c ns ds) M1
def mFor (mi : SI) (mg : SG) (mb : SS) : SS := fun ρ M => liftE (mi ρ M) ρ fun ds M1 => forGo mg mb ds ρ M1
theorem snd_for {wi : TI} {g : TG} {tb : TS} {mi : SI} {mg : SG} {mb : SS} {is : List Nat} (hi : SndI K W wi mi) (hg : SndG K g mg is) (hb : SndS K W tb mb) : SndS K W (tFor wi g tb) (mFor mi mg mb) := fun hid σ ρ M ad H E st h => by
  refine hi.stepS st h fun ds M1 J ad1 H1 f1 s1 wk q1 => ?_
  refine ⟨fun i m σ' H' => m = ds.length - i ∧ i ≤ ds.length ∧ ∃ (ρ' : Rho) (M' : Mem) (ad' : List Addr), StS K hid M' ad' H' ρ' σ' ∧ Wk K (hS hid ρ' σ') M' ad' H' J ds ∧
    PostS K W hid (hS hid ρ' σ') M' ad' H' E (forGo mg mb (ds.drop i) ρ' M'), ⟨ds.length, by simp, Nat.zero_le _, ρ, M1, ad1, s1, wk, q1⟩, ?_⟩
  rintro i m σ' H' ⟨rfl, hi2, ρ', M', ad', s', wk', q⟩
  by_cases hlt : i < ds.length
  · have e1 : ds[i]? = some ds[i] := List.getElem?_eq_getElem hlt
    have e2 : ds.drop i = ds[i] :: ds.drop (i + 1) := List.drop_eq_getElem_cons hlt
    rw [e2] at q
    obtain ⟨w1, _⟩ := wk' _ M' ad' H' (Le.refl _) s'.ok
    obtain ⟨go, yl⟩ := w1 i _ e1
    refine .inr ⟨go, _, fun σ2 H2 z => ⟨ds.length - (i + 1), by omega, rfl, hlt, z⟩, fun x H2 y => ?_⟩
    obtain ⟨f2, k2, rx⟩ := yl x H2 y
    have sA := s'.fr f2 k2
    have q1' : PostS K W hid (hS hid ρ' σ') M' ad' H2 E (match mg ds[i] ρ' with
      | none => (Res.bad : Res Fl)
      | some ρ1 => (mb ρ1 M').bind fun fl M1 => match fl with
        | .nx ρ2 => forGo mg mb (ds.drop (i + 1)) ρ2 M1
        | .ct ρ2 => forGo mg mb (ds.drop (i + 1)) ρ2 M1
        | .bk ρ2 => .ok (.nx ρ2) M1
        | .rt d => .ok (.rt d) M1
        | .ex ρ2 c ns ds => .ok (.ex ρ2 c ns ds) M1) := PostS.fr (FrG.of f2 fun _ z => .inl z) q
    cases eg : mg ds[i] ρ' with
    | none =>
      rw [eg] at q1'
      exact q1'.elim
    | some ρ1 =>
      rw [eg] at q1'
      refine hg _ σ' ρ' ρ1 M' ad' H2 ds[i] x _ sA.rp rx eg fun σ2 r2 o2 _ _ => ?_
      obtain ⟨s2, g2⟩ := sA.sub r2 o2
      have q2 : PostS K W hid (hS hid ρ1 σ2) M' ad' H2 E ((mb ρ1 M').bind fun fl M1 => match fl with
        | .nx ρ2 => forGo mg mb (ds.drop (i + 1)) ρ2 M1
        | .ct ρ2 => forGo mg mb (ds.drop (i + 1)) ρ2 M1
        | .bk ρ2 => .ok (.nx ρ2) M1
        | .rt d => .ok (.rt d) M1
        | .ex ρ2 c ns ds => .ok (.ex ρ2 c ns ds) M1) := PostS.fr g2 q1'
      have wk2 : Wk K (hS hid ρ1 σ2) M' ad' H2 J ds := wk'.le (f2.le.trans g2.le)
      refine hb hid σ2 ρ1 M' ad' H2 _ s2 ?_
      cases eb : mb ρ1 M' with
      | exc _ _ _ _ =>
        rw [eb] at q2
        exact q2
      | bad =>
        rw [eb] at q2
        exact q2
      | ok fl M3 =>
        rw [eb] at q2
        cases fl with
        | nx ρ3 => exact fun σ3 ad3 H3 g3 s3 => ⟨ρ3, M3, ad3, s3, wk2.le g3.le, PostS.fr g3 q2⟩
        | ct ρ3 => exact fun σ3 ad3 H3 g3 s3 => ⟨ρ3, M3, ad3, s3, wk2.le g3.le, PostS.fr g3 q2⟩
        | bk ρ3 => exact q2
        | rt d => exact q2
        | ex ρ3 c ns vs => exact q2
  · have e : i = ds.length := by omega
    subst e
    obtain ⟨_, w2⟩ := wk' _ M' ad' H' (Le.refl _) s'.ok
    rw [List.drop_length] at q
    exact .inl ⟨w2, q σ' ad' H' FrG.refl s'⟩
/-! ### while -/
def whGo (c : ST) (mb : SS) : Nat → SS
  | 0, _, _ => .bad
  | n + 1, ρ, M => liftE (c ρ M) ρ fun b M1 => if b = true then (mb ρ M1).bind fun fl M2 => match fl with
      | .nx ρ2 => whGo c mb n ρ2 M2
      | .ct ρ2 => whGo c mb n ρ2 M2
      | .bk ρ2 => .ok (.nx ρ2) M2
      | .rt d => .ok (.rt d) M2
      | .ex ρ2 c ns ds => .ok (.ex ρ2 c ns ds) M2
    else .ok (.nx ρ) M1
theorem snd_while {tc : TT} {tb : TS} {mc : ST} {mb : SS} (n : Nat) (hc : SndT K W tc mc) (hb : SndS K W tb mb) : SndS K W (tWhile tc tb) (whGo mc mb n) := fun hid σ ρ M ad H E st h => by
  refine ⟨fun m σ' H' => ∃ (ρ' : Rho) (M' : Mem) (ad' : List Addr), StS K hid M' ad' H' ρ' σ' ∧ PostS K W hid (hS hid ρ' σ') M' ad' H' E (whGo mc mb m ρ' M'), ⟨n, ρ, M, ad, st, h⟩, ?_⟩
  rintro m σ' H' ⟨ρ', M', ad', s', q⟩
  cases m with
  | zero => exact q.elim
  | succ m =>
    refine hc.stepS s' q fun b M1 ad1 H1 f1 s1 q1 => ?_
    cases b with
    | false =>
      rw [if_neg (by decide)] at q1
      exact iteF (q1 σ' ad1 H1 FrG.refl s1)
    | true =>
      rw [if_pos rfl] at q1
      refine iteT ⟨_, fun σ2 H2 z => ⟨m, Nat.lt_succ_self m, z⟩, ?_⟩
      refine hb hid σ' ρ' M1 ad1 H1 _ s1 ?_
      have q2 : PostS K W hid (hS hid ρ' σ') M1 ad1 H1 E ((mb ρ' M1).bind fun fl M2 => match fl with
        | .nx ρ2 => whGo mc mb m ρ2 M2
        | .ct ρ2 => whGo mc mb m ρ2 M2
        | .bk ρ2 => .ok (.nx ρ2) M2
        | .rt d => .ok (.rt d) M2
        | .ex ρ2 c ns ds => .ok (.ex ρ2 c ns ds) M2) := q1
      cases eb : mb ρ' M1 with
      | exc _ _ _ _ =>
        rw [eb] at q2
        exact q2
      | bad =>
        rw [eb] at q2
        exact q2
      | ok fl M3 =>
        rw [eb] at q2
        cases fl with
        | nx ρ3 => exact fun σ3 ad3 H3 g3 s3 => ⟨ρ3, M3, ad3, s3, PostS.fr g3 q2⟩
        | ct ρ3 => exact fun σ3 ad3 H3 g3 s3 => ⟨ρ3, M3, ad3, s3, PostS.fr g3 q2⟩
        | bk ρ3 => exact q2
        | rt d => exact q2
        | ex ρ3 c ns vs => exact q2

/-! ### defs -/
abbrev GF := List D → Mem → Res D
def spD (K : PySem.W.Frag) (n : Nat) (g : GF) : Sp := fun vs H Q E => ∃ (hid : Addr → Prop) (ds : List D) (M : Mem) (ad : List Addr), ds.length = n ∧ Ok K hid M ad H ∧ RpL K (wd hid M ad H) ds vs ∧ (pV K hid Q E).P M ad H (g ds M)
theorem spD_len {n : Nat} {g : GF} {vs : List V} {Q : VK} {E : XK} (h : spD K n g vs H Q E) : vs.length = n := by
  obtain ⟨_, ds, _, _, e, _, r, _⟩ := h
  rw [r.len, e]
def rho0 (N : Nat) (ds : List D) : Rho := ds.map Sl.val ++ List.replicate (N - ds.length) Sl.no
def mBody (N : Nat) (m : SS) : GF := fun ds M => match m (rho0 N ds) M with
  | .ok (.nx _) M' => .ok .non M'
  | .ok (.rt d) M' => .ok d M'
  | .ok (.ex _ c ns vs) M' => .exc c ns vs M'
  | _ => .bad
theorem rho0_no {N : Nat} {ds : List D} {i : Nat} {o : MO} (h : (rho0 N ds)[i]? = some (.own o)) : False := by
  unfold rho0 at h
  by_cases c : i < ds.length
  · rw [List.getElem?_append_left (by simpa using c), List.getElem?_map] at h
    cases e : ds[i]? with
    | none =>
      rw [e] at h
      cases h
    | some d =>
      rw [e] at h
      cases h
  · rw [List.getElem?_append_right (by simpa using c), List.getElem?_replicate] at h
    split at h <;> cases h
theorem body_ok {E : XK} {Q : VK} {N : List Str} {n : Nat} {ts : TS} {m : SS} (s : SndS K (fun c d _ H' => E c d H') ts m) {vs : List V} (h : spD K n (mBody N.length m) vs H Q E) : ts { nx := fun _ H' => Q .non H', rt := Q } (L2.start N vs) H := by
  obtain ⟨hid, ds, M, ad, e, k, r, q⟩ := h
  have noW : ∀ σ a, ¬ ow (rho0 N.length ds) σ a := fun σ a ⟨i, o, z, _⟩ => rho0_no z
  have sub : ∀ σ a, hS hid (rho0 N.length ds) σ a → hid a := fun σ a z => z.resolve_right (noW σ a)
  have st : StS K hid M ad H (rho0 N.length ds) (L2.start N vs) := by
    refine ⟨k.unhid (sub _), ⟨?_, fun i d z => ?_, fun i o z => (rho0_no z).elim, fun i j o u a z => (rho0_no z).elim⟩, fun a z => (noW _ a z).elim⟩
    · unfold L2.start rho0
      rw [List.length_append, List.length_append, List.length_map, List.length_map, List.length_replicate, List.length_replicate, r.len]
    · unfold rho0 at z
      by_cases c : i < ds.length
      · rw [List.getElem?_append_left (by simpa using c), List.getElem?_map] at z
        cases e2 : ds[i]? with
        | none =>
          rw [e2] at z
          cases z
        | some d' =>
          rw [e2] at z
          have e3 : d' = d := by
            have := Option.some.inj z
            injection this
          subst e3
          obtain ⟨v, g1, g2⟩ := r.get e2
          refine ⟨v, ?_, Rp.unhid (sub _) g2⟩
          unfold L2.start
          rw [List.getElem?_append_left (by rw [List.length_map, r.len]; exact c), List.getElem?_map, g1]
          rfl
      · rw [List.getElem?_append_right (by simpa using c), List.getElem?_replicate] at z
        split at z <;> cases z
  have fr : ∀ {h2 : Addr → Prop} {M' : Mem} {ad' : List Addr} {H' : Hp}, (∀ a, hid a → h2 a) → FrG hid (hS hid (rho0 N.length ds) (L2.start N vs)) h2 M ad H M' ad' H' → Fr hid M ad H M' ad' H' := fun {h2 M' ad' H'} hh f => by
    refine ⟨(Le.unhid (sub _)).trans (f.le.trans (Le.unhid hh)), f.hidk, f.dom⟩
  refine s hid _ _ M ad H _ st ?_
  unfold mBody at q
  cases em : m (rho0 N.length ds) M with
  | exc _ _ _ _ =>
    rw [em] at q
    exact q.elim
  | bad =>
    rw [em] at q
    exact q.elim
  | ok fl M1 =>
    rw [em] at q
    cases fl with
    | nx ρ1 => exact fun σ1 ad1 H1 f1 s1 => q .non ad1 H1 (fr (fun _ z => .inl z) f1) s1.unhid (by simp [Rp])
    | rt d => exact fun v ad1 H1 f1 k1 r1 => q v ad1 H1 (fr (fun _ z => z) f1) k1 r1
    | ex ρ1 c ns us => exact fun σ1 dx es ad1 H1 f1 s1 e1 e2 e3 => q dx es ad1 H1 (fr (fun _ z => .inl z) f1) s1.unhid e1 e2 e3
    | bk _ => exact q.elim
    | ct _ => exact q.elim
/-- a def's promise of another making -/
theorem spD_imp {n : Nat} {g g' : GF} (h : ∀ ds M, ds.length = n → g' ds M = .bad ∨ g ds M = g' ds M) {vs : List V} {Q : VK} {E : XK} (q : spD K n g' vs H Q E) : spD K n g vs H Q E := by
  obtain ⟨hid, ds, M, ad, e, k, r, q⟩ := q
  rcases h ds M e with z | z
  · rw [z] at q
    exact q.elim
  · exact ⟨hid, ds, M, ad, e, k, r, by rw [z]; exact q⟩
/-- f(..) -/
def mCall (n : Nat) (g : GF) (dd : List D) (ma : SA) : SE := fun ρ M => (ma ρ M).bind fun ds M1 => if (ds ++ dd).length = n then g (ds ++ dd) M1 else .bad
theorem snd_call {n : Nat} {g : GF} {dd : List D} {dvs : List V} {ta : TA} {ma : SA} (hd : ∀ W : Wd, RpL K W dd dvs) (ha : SndA K W ta ma) : Snd K W (tCallSD (spD K n g) dvs (WE W) ta) (mCall n g dd ma) := fun hid σ ρ M ad H Q k r h => by
  refine ha.step k r (pV K hid Q (wx W σ)) h fun ds M1 xs ad1 H1 f1 k1 rx r1 h1 => ?_
  by_cases c : (ds ++ dd).length = n
  · rw [if_pos c] at h1
    exact ⟨hid, ds ++ dd, M1, ad1, c, k1, rx.append (hd _), h1⟩
  · rw [if_neg c] at h1
    exact h1.elim

/-! ### built-ins by values -/
def CbS (K : PySem.W.Frag) (r : List V → Hp → VK → Prop) (f : List D → Mem → Res D) : Prop := ∀ (hid : Addr → Prop) (M : Mem) (ad : List Addr) (H : Hp) (ds : List D) (vs : List V) (Q : VK) (E : XK), Ok K hid M ad H → RpL K (wd hid M ad H) ds vs →
  (pV K hid Q E).P M ad H (f ds M) → r vs H Q
def mCB (f : List D → Mem → Res D) (ma : SA) : SE := fun ρ M => (ma ρ M).bind fun ds M1 => f ds M1
theorem snd_cb {r : List V → Hp → VK → Prop} {f : List D → Mem → Res D} {ta : TA} {ma : SA} (hr : CbS K r f) (ha : SndA K W ta ma) : Snd K W (tCB r ta) (mCB f ma) := fun hid σ ρ M ad H Q k rr h => by
  refine ha.step k rr (pV K hid Q (wx W σ)) h fun ds M1 xs ad1 H1 f1 k1 rx r1 h1 => ?_
  exact hr hid M1 ad1 H1 ds xs Q _ k1 rx h1
/-- one argument -/
def f1 (f : D → Mem → Res D) : List D → Mem → Res D := fun ds M => match ds with
  | [d] => f d M
  | _ => .bad
theorem cb1 {r : List V → Hp → VK → Prop} {f : D → Mem → Res D} (h : ∀ (hid : Addr → Prop) (M : Mem) (ad : List Addr) (H : Hp) (d : D) (v : V) (Q : VK) (E : XK), Ok K hid M ad H → Rp K (wd hid M ad H) d v → (pV K hid Q E).P M ad H (f d M) → r [v] H Q) : CbS K r (f1 f) := fun hid M ad H ds vs Q E k rx q => by
  match ds, rx, q with
  | [d], rx, q =>
    obtain ⟨v, r1, e1, g1, g2⟩ := rx.consI
    have e2 := g2.nilI
    subst e1 e2
    exact h hid M ad H d v Q E k g1 q
  | [], _, q => exact q.elim
  | _ :: _ :: _, _, q => exact q.elim
def fLen : D → Mem → Res D := fun d M => match d with
  | .str z => if z.length ≤ sizeLine then .ok (.int z.length) M else .bad
  | .lst ds => .ok (.int ds.length) M
  | .tup ds => .ok (.int ds.length) M
  | _ => .bad
theorem cb_len : CbS K (fun xs H Q => ∃ x n, xs = [x] ∧ LenV K x H n ∧ Q (.int n) H) (f1 fLen) := cb1 fun hid M ad H d v Q E k r q => by
  cases d with
  | str z =>
    have e : v = .str z := by simpa only [Rp] using r
    have q' : (pV K hid Q E).P M ad H (if z.length ≤ sizeLine then .ok (.int z.length) M else .bad) := q
    by_cases c : z.length ≤ sizeLine
    · rw [if_pos c] at q'
      subst e
      exact ⟨_, z.length, rfl, ⟨c, rfl⟩, q' _ ad H Fr.refl k (rp_int _)⟩
    · rw [if_neg c] at q'
      exact q'.elim
  | lst ds =>
    simp only [Rp] at r
    obtain ⟨a, vs, e, l1, l2⟩ := r
    subst e
    exact ⟨_, ds.length, rfl, .inl ⟨vs, SqL.of l1.1, l2.len.symm⟩, q _ ad H Fr.refl k (rp_int _)⟩
  | tup ds =>
    simp only [Rp] at r
    obtain ⟨a, vs, e, l1, l2⟩ := r
    subst e
    exact ⟨_, ds.length, rfl, .inr ⟨vs, l1.sq, l2.len.symm⟩, q _ ad H Fr.refl k (rp_int _)⟩
  | _ => exact q.elim
def fInt1 : D → Mem → Res D := fun d M => match d with
  | .int i => .ok (.int i) M
  | .bl b => .ok (.int (if b then 1 else 0)) M
  | _ => .bad
theorem cb_int1 : CbS K (fun xs H Q => (∃ i, xs = [.int i] ∧ Q (.int i) H) ∨ ∃ k, xs = [.bl k] ∧ Q (.int (if k then 1 else 0)) H) (f1 fInt1) := cb1 fun hid M ad H d v Q E k r q => by
  cases d with
  | int i =>
    have e : v = .int i := by simpa only [Rp] using r
    subst e
    exact .inl ⟨i, rfl, q _ ad H Fr.refl k (rp_int _)⟩
  | bl b =>
    have e : v = .bl b := by simpa only [Rp] using r
    subst e
    exact .inr ⟨b, rfl, q _ ad H Fr.refl k (rp_int _)⟩
  | _ => exact q.elim
def bls : List D → Option (List Bool)
  | [] => some []
  | .bl b :: r => (bls r).map (b :: ·)
  | _ :: _ => none
theorem bls_rp {W : Wd} : ∀ {ds : List D} {bs : List Bool} {vs : List V}, bls ds = some bs → RpL K W ds vs → vs = bs.map V.bl
  | [], bs, vs, h, r => by
    have e := Option.some.inj h
    rw [← e, r.nilI]
    rfl
  | .bl b :: ds, bs, vs, h, r => by
    obtain ⟨v, r', e, h1, h2⟩ := r.consI
    have h' : (bls ds).map (b :: ·) = some bs := h
    cases q : bls ds with
    | none =>
      rw [q] at h'
      cases h'
    | some cs =>
      rw [q] at h'
      have e2 : b :: cs = bs := Option.some.inj h'
      have e3 : v = .bl b := by simpa only [Rp] using h1
      rw [e, e3, bls_rp q h2, ← e2]
      rfl
  | .non :: _, _, _, h, _ => by cases h
  | .int _ :: _, _, _, h, _ => by cases h
  | .str _ :: _, _, _, h, _ => by cases h
  | .ty _ :: _, _, _, h, _ => by cases h
  | .cls _ :: _, _, _, h, _ => by cases h
  | .lst _ :: _, _, _, h, _ => by cases h
  | .tup _ :: _, _, _, h, _ => by cases h
  | .dct _ _ :: _, _, _, h, _ => by cases h
  | .ins _ _ _ :: _, _, _, h, _ => by cases h
  | .obj _ :: _, _, _, h, _ => by cases h
  | .scr _ :: _, _, _, h, _ => by cases h
def fAll : D → Mem → Res D := fun d M => match d with
  | .lst ds => match bls ds with
    | some bs => .ok (.bl (bs.all id)) M
    | none => .bad
  | _ => .bad
def fAny : D → Mem → Res D := fun d M => match d with
  | .lst ds => match bls ds with
    | some bs => .ok (.bl (bs.any id)) M
    | none => .bad
  | _ => .bad
theorem cb_all : CbS K (rAll K) (f1 fAll) := cb1 fun hid M ad H d v Q E k r q => by
  cases d with
  | lst ds =>
    simp only [Rp] at r
    obtain ⟨a, vs, e, l1, l2⟩ := r
    have q' : (pV K hid Q E).P M ad H (match bls ds with
      | some bs => .ok (.bl (bs.all id)) M
      | none => .bad) := q
    cases e2 : bls ds with
    | none =>
      rw [e2] at q'
      exact q'.elim
    | some bs =>
      rw [e2] at q'
      subst e
      exact ⟨a, bs, rfl, by rw [← bls_rp e2 l2]; exact SqL.of l1.1, q' _ ad H Fr.refl k (rp_bl _)⟩
  | _ => exact q.elim
theorem cb_any : CbS K (rAny K) (f1 fAny) := cb1 fun hid M ad H d v Q E k r q => by
  cases d with
  | lst ds =>
    simp only [Rp] at r
    obtain ⟨a, vs, e, l1, l2⟩ := r
    have q' : (pV K hid Q E).P M ad H (match bls ds with
      | some bs => .ok (.bl (bs.any id)) M
      | none => .bad) := q
    cases e2 : bls ds with
    | none =>
      rw [e2] at q'
      exact q'.elim
    | some bs =>
      rw [e2] at q'
      subst e
      exact ⟨a, bs, rfl, by rw [← bls_rp e2 l2]; exact SqL.of l1.1, q' _ ad H Fr.refl k (rp_bl _)⟩
  | _ => exact q.elim

/-! ### isinstance: a built-in class -/
def tyD : D → Option String
  | .non => some "NoneType"
  | .bl _ => some "bool"
  | .int _ => some "int"
  | .str _ => some "str"
  | .lst _ => some "list"
  | .tup _ => some "tuple"
  | .dct _ _ => some "dict"
  | _ => none
theorem tyD_ok {hid : Addr → Prop} {M : Mem} {ad : List Addr} {H : Hp} {d : D} {v : V} {n : String} (h : tyD d = some n) (r : Rp K (wd hid M ad H) d v) : TyX K H v (.type n) := by
  cases d with
  | non => cases h; have e : v = .non := by simpa only [Rp] using r
           subst e; exact .base .non
  | bl b => cases h; have e : v = .bl b := by simpa only [Rp] using r
            subst e; exact .base (.bl b)
  | int b => cases h; have e : v = .int b := by simpa only [Rp] using r
             subst e; exact .base (.int b)
  | str b => cases h; have e : v = .str b := by simpa only [Rp] using r
             subst e; exact .base (.str b)
  | lst ds => cases h; simp only [Rp] at r; obtain ⟨a, vs, e, l1, _⟩ := r; subst e; exact .base (.lst l1.1)
  | tup ds =>
    cases h
    simp only [Rp] at r
    obtain ⟨a, vs, e, l1, _⟩ := r
    subst e
    rcases l1 with ⟨(l1 | ⟨o, l1⟩), _⟩ | ⟨o, its, m, l1, l2, _⟩
    · exact .base (.tup l1)
    · exact .fTuple l1
    · exact .kTuple l1 l2
  | dct ks ds => cases h; simp only [Rp] at r; obtain ⟨a, vs, e, l1, _⟩ := r; subst e; exact .base (.dK l1)
  | _ => cases h
def fIsi : List D → Mem → Res D := fun ds M => match ds with
  | [d, .ty n] => match (tyD d).bind fun t => kitB t n with
    | some b => .ok (.bl b) M
    | none => .bad
  | _ => .bad
theorem cb_isi : CbS K (rIsi K) fIsi := fun hid M ad H ds vs Q E k rx q => by
  have key : (∃ d n, ds = [d, .ty n]) ∨ (pV K hid Q E).P M ad H .bad := by
    match ds, q with
    | [], q => exact .inr q
    | [_], q => exact .inr q
    | [d, e], q => cases e <;> first | exact .inl ⟨_, _, rfl⟩ | exact .inr q
    | d :: e :: _ :: _, q => cases e <;> exact .inr q
  rcases key with ⟨d, n, e⟩ | z
  · subst e
    obtain ⟨v, r1, e1, g1, g2⟩ := rx.consI
    obtain ⟨w, r2, e2, g3, g4⟩ := g2.consI
    have e3 := g4.nilI
    have e4 : w = .ty n := by simpa only [Rp] using g3
    subst e1 e2 e3 e4
    have q' : (pV K hid Q E).P M ad H (match (tyD d).bind fun t => kitB t n with
      | some b => .ok (.bl b) M
      | none => .bad) := q
    cases e5 : tyD d with
    | none =>
      rw [e5] at q'
      exact q'.elim
    | some t =>
      rw [e5] at q'
      have q'' : (pV K hid Q E).P M ad H (match kitB t n with
        | some b => .ok (.bl b) M
        | none => .bad) := q'
      cases e6 : kitB t n with
      | none =>
        rw [e6] at q''
        exact q''.elim
      | some b =>
        rw [e6] at q''
        exact ⟨v, .ty n, .type t, .type n, b, rfl, .ty n, tyD_ok e5 g1, kit_ty e6, q'' _ ad H Fr.refl k (rp_bl _)⟩
  · exact z.elim
end
end DL

set_option maxHeartbeats 4000000
/-! DL, part i: slices, methods of texts, writes into the memory, chains of comparisons -/
namespace DL
open PySem PySem.Spec PyProof.Rows L2
section
variable {K : PySem.W.Frag} {hid h1 h2 : Addr → Prop} {M M1 : Mem} {ad ad1 : List Addr} {H H1 : Hp} {σ : L2.St} {ρ : Rho} {W : WX}
/-! ### a < b < c -/
def mChain (f f' : D → D → Mem → Res D) (ma mb mc : SE) : SE := fun ρ M => (ma ρ M).bind fun x M1 => (mb ρ M1).bind fun y M2 => (f x y M2).bind fun z M3 => match z with
  | .bl true => (mc ρ M3).bind fun w M4 => f' y w M4
  | .bl false => .ok (.bl false) M3
  | _ => .bad
theorem OpS.step {r : R2} {f : D → D → Mem → Res D} (o : OpS K r f) {β : Type} {dx dy : D} {x y : V} {E : XK} (k : Ok K hid M ad H) (rx : Rp K (wd hid M ad H) dx x) (ry : Rp K (wd hid M ad H) dy y) (p : Pk K hid E β) {g : D → Mem → Res β} (h : p.P M ad H ((f dx dy M).bind g)) {R : VK}
    (nx : ∀ d M1 x ad1 H1, Fr hid M ad H M1 ad1 H1 → Ok K hid M1 ad1 H1 → Rp K (wd hid M1 ad1 H1) d x → p.P M1 ad1 H1 (g d M1) → R x H1) : r x y H R := by
  refine o hid M ad H dx dy x y R E k rx ry ?_
  cases e : f dx dy M with
  | ok d M1 =>
    rw [e] at h
    exact fun v ad1 H1 f1 k1 rp => nx d M1 v ad1 H1 f1 k1 rp (p.fr f1 h)
  | exc c ns ds M1 =>
    rw [e] at h
    exact p.ex h
  | bad =>
    rw [e] at h
    exact p.no h
theorem snd_chain {r r' : R2} {f f' : D → D → Mem → Res D} {ta tb tc : TE} {ma mb mc : SE} (ho : OpS K r f) (ho' : OpS K r' f') (ha : Snd K W ta ma) (hb : Snd K W tb mb) (hc : Snd K W tc mc) : Snd K W (tChain r r' ta tb tc) (mChain f f' ma mb mc) := fun hid σ ρ M ad H Q k rr h => by
  refine ha.step k rr (pV K hid Q (wx W σ)) h fun dx M1 x ad1 H1 f1 k1 rx r1 h1 => ?_
  refine hb.step k1 r1 (pV K hid Q (wx W σ)) h1 fun dy M2 y ad2 H2 f2 k2 ry r2 h2 => ?_
  refine ho.step k2 (Rp.le f2.le dx rx) ry (pV K hid Q (wx W σ)) h2 fun dz M3 z ad3 H3 f3 k3 rz h3 => ?_
  cases dz with
  | bl b =>
    have ez : z = .bl b := by simpa only [Rp] using rz
    refine ⟨b, ez, ?_⟩
    cases b with
    | true =>
      refine iteT ?_
      refine hc.step k3 (r2.fr f3) (pV K hid Q (wx W σ)) h3 fun dw M4 w ad4 H4 f4 k4 rw4 r4 h4 => ?_
      exact ho' hid M4 ad4 H4 dy dw y w Q _ k4 (Rp.le (f3.trans f4).le dy ry) rw4 h4
    | false => exact iteF (h3 _ ad3 H3 Fr.refl k3 (rp_bl _))
  | _ => exact h3.elim

/-! ### slices -/
abbrev SO := Rho → Mem → Res (Option Int)
def pO (K : PySem.W.Frag) (hid : Addr → Prop) (Q : Option Int → Hp → Prop) (E : XK) : Pk K hid E (Option Int) where
  P M ad H r := match r with
    | .ok o M' => ∀ ad' H', Fr hid M ad H M' ad' H' → Ok K hid M' ad' H' → Q o H'
    | .exc c ns ds M' => PostX K hid M ad H E c ns ds M'
    | .bad => False
  fr {M ad H M1 ad1 H1 r} f h := match r, h with
    | .ok d M', h => fun ad' H' g k => h ad' H' (f.trans g) k
    | .exc _ _ _ _, h => PostX.fr f h
    | .bad, h => h
  ex h := h
  no h := h
def SndO (K : PySem.W.Frag) (W : WX) (to : TO) (m : SO) : Prop := ∀ (hid : Addr → Prop) (σ : L2.St) (ρ : Rho) (M : Mem) (ad : List Addr) (H : Hp) (Q : Option Int → Hp → Prop), Ok K hid M ad H → RpS K hid M ad H ρ σ →
  (pO K hid Q (wx W σ)).P M ad H (m ρ M) → to σ H Q
theorem SndO.step {β : Type} {to : TO} {m : SO} (s : SndO K W to m) (k : Ok K hid M ad H) (r : RpS K hid M ad H ρ σ) (p : Pk K hid (wx W σ) β) {f : Option Int → Mem → Res β} (h : p.P M ad H ((m ρ M).bind f)) {R : Option Int → Hp → Prop}
    (nx : ∀ b M1 ad1 H1, Fr hid M ad H M1 ad1 H1 → Ok K hid M1 ad1 H1 → RpS K hid M1 ad1 H1 ρ σ → p.P M1 ad1 H1 (f b M1) → R b H1) : to σ H R := by
  refine s hid σ ρ M ad H R k r ?_
  cases e : m ρ M with
  | ok d M1 =>
    rw [e] at h
    exact fun ad1 H1 f1 k1 => nx d M1 ad1 H1 f1 k1 (r.fr f1) (p.fr f1 h)
  | exc c ns ds M1 =>
    rw [e] at h
    exact p.ex h
  | bad =>
    rw [e] at h
    exact p.no h
def mNoPart : SO := fun _ M => .ok none M
theorem sndo_none : SndO K W tNoPart mNoPart := fun hid σ ρ M ad H Q k r h => h ad H Fr.refl k
def mPart (m : SE) : SO := fun ρ M => (m ρ M).bind fun d M1 => match d with
  | .int i => .ok (some i) M1
  | _ => .bad
theorem sndo_some {te : TE} {m : SE} (s : Snd K W te m) : SndO K W (tPart te) (mPart m) := fun hid σ ρ M ad H Q k r h => by
  refine s.step k r (pO K hid Q (wx W σ)) h fun d M1 x ad1 H1 f1 k1 rx r1 h1 => ?_
  cases d with
  | int i => exact ⟨i, by simpa only [Rp] using rx, h1 ad1 H1 Fr.refl k1⟩
  | _ => exact h1.elim
def cutL {α : Type} (xs : List α) (lo hi : Option Int) : List α := (xs.drop (HT.sIx xs.length 0 lo)).take (HT.sIx xs.length xs.length hi - HT.sIx xs.length 0 lo)
theorem cut_rp {W : Wd} {ds : List D} {vs : List V} (r : RpL K W ds vs) (lo hi : Option Int) : RpL K W (cutL ds lo hi) (cutV vs lo hi) := by
  unfold cutL cutV
  rw [r.len]
  exact (r.drop _).take _
theorem rpl_ints {W : Wd} : ∀ ns : List Int, RpL K W (ns.map D.int) (ns.map V.int)
  | [] => RpL.nil
  | n :: ns => RpL.cons (rp_int n) (rpl_ints ns)
theorem cutV_map (ns : List Int) (lo hi : Option Int) : cutV (ns.map V.int) lo hi = (cutL ns lo hi).map V.int := by
  unfold cutV cutL
  rw [List.length_map, List.map_take, List.map_drop]
def rSlD (K : PySem.W.Frag) : V → Option Int → Option Int → Hp → VK → Prop := fun x lo hi H Q => rSlS x lo hi H Q ∨ (rSlL K x lo hi H Q ∨ rSlA K x lo hi H Q)
theorem slr_all {X : Cx} : SlR X (rSlD X.K) := sl_str.or (sl_list.or sl_tupA)
def fSl (x : D) (lo hi : Option Int) (M : Mem) : Res D := match x with
  | .str z => if z.length ≤ sizeLine then .ok (.str (cutS z lo hi)) M else .bad
  | .lst ds => .ok (.lst (cutL ds lo hi)) M
  | .scr ns => .ok (.lst ((cutL ns lo hi).map D.int)) M
  | .tup ds => .ok (.tup (cutL ds lo hi)) M
  | _ => .bad
def mSl (me : SE) (ml mh : SO) : SE := fun ρ M => (me ρ M).bind fun x M1 => (ml ρ M1).bind fun l M2 => (mh ρ M2).bind fun u M3 => fSl x l u M3
theorem snd_sl {te : TE} {tl th : TO} {me : SE} {ml mh : SO} (he : Snd K W te me) (hl : SndO K W tl ml) (hh : SndO K W th mh) : Snd K W (tSl (rSlD K) te tl th) (mSl me ml mh) := fun hid σ ρ M ad H Q k r h => by
  refine he.step k r (pV K hid Q (wx W σ)) h fun d M1 x ad1 H1 f1 k1 rx r1 h1 => ?_
  refine hl.step k1 r1 (pV K hid Q (wx W σ)) h1 fun lo M2 ad2 H2 f2 k2 r2 h2 => ?_
  refine hh.step k2 r2 (pV K hid Q (wx W σ)) h2 fun hi M3 ad3 H3 f3 k3 r3 h3 => ?_
  have rx3 := Rp.le (f2.trans f3).le d rx
  cases d with
  | str z =>
    have e : x = .str z := by simpa only [Rp] using rx
    have h4 : (pV K hid Q (wx W σ)).P M3 ad3 H3 (if z.length ≤ sizeLine then .ok (.str (cutS z lo hi)) M3 else .bad) := h3
    by_cases c : z.length ≤ sizeLine
    · rw [if_pos c] at h4
      exact .inl ⟨z, e, c, h4 _ ad3 H3 Fr.refl k3 (rp_str _)⟩
    · rw [if_neg c] at h4
      exact h4.elim
  | lst ds =>
    simp only [Rp] at rx3
    obtain ⟨a, vs, e, l1, l2⟩ := rx3
    refine .inr (.inl ⟨a, vs, e, SqL.of l1.1, fun p hp => ?_⟩)
    obtain ⟨f4, k4, r4⟩ := new_lst k3 hp (cut_rp l2 lo hi)
    exact h3 _ _ _ f4 k4 r4
  | scr ns =>
    simp only [Rp] at rx3
    obtain ⟨a, e, l1⟩ := rx3
    refine .inr (.inl ⟨a, _, e, l1.imp (fun z => z.1) id, fun p hp => ?_⟩)
    rw [cutV_map]
    obtain ⟨f4, k4, r4⟩ := new_lst k3 hp (rpl_ints (cutL ns lo hi))
    exact h3 _ _ _ f4 k4 r4
  | tup ds =>
    have rx0 := rx3
    simp only [Rp] at rx3
    obtain ⟨a, vs, e, l1, l2⟩ := rx3
    refine .inr (.inr ⟨a, vs, e, l1.sq, fun z => ?_, fun _ p hp => ?_⟩)
    · rw [l2.len] at z
      have e2 : cutL ds lo hi = ds := by
        unfold cutL
        rw [z.1, z.2]
        simp
      refine h3 _ ad3 H3 Fr.refl k3 ?_
      rw [e2, ← e]
      exact rx0
    · obtain ⟨f4, k4, r4⟩ := new_tup k3 hp (cut_rp l2 lo hi)
      exact h3 _ _ _ f4 k4 r4
  | _ => exact h3.elim

/-! ### methods of texts of one argument -/
def Mt1S (K : PySem.W.Frag) (r : V → List V → Hp → VK → Prop) (f : Str → D → Mem → Res D) : Prop := ∀ (hid : Addr → Prop) (M : Mem) (ad : List Addr) (H : Hp) (a : Str) (d : D) (v : V) (Q : VK) (E : XK), Ok K hid M ad H → Rp K (wd hid M ad H) d v →
  (pV K hid Q E).P M ad H (f a d M) → r (.str a) [v] H Q
def mM1 (f : Str → D → Mem → Res D) (mo me : SE) : SE := fun ρ M => (mo ρ M).bind fun x M1 => match x with
  | .str a => (me ρ M1).bind fun d M2 => f a d M2
  | _ => .bad
theorem snd_m1 {r : V → List V → Hp → VK → Prop} {f : Str → D → Mem → Res D} {to te : TE} {mo me : SE} (hr : Mt1S K r f) (ho : Snd K W to mo) (he : Snd K W te me) : Snd K W (tM1 r to te) (mM1 f mo me) := fun hid σ ρ M ad H Q k rr h => by
  refine ho.step k rr (pV K hid Q (wx W σ)) h fun d M1 x ad1 H1 f1 k1 rx r1 h1 => ?_
  cases d with
  | str a =>
    have e : x = .str a := by simpa only [Rp] using rx
    subst e
    refine ⟨⟨a, rfl⟩, ?_⟩
    refine he.step k1 r1 (pV K hid Q (wx W σ)) h1 fun d2 M2 y ad2 H2 f2 k2 ry r2 h2 => ?_
    exact hr hid M2 ad2 H2 a d2 y Q _ k2 ry h2
  | _ => exact h1.elim
def strsD : List D → Option (List Str)
  | [] => some []
  | .str b :: r => (strsD r).map (b :: ·)
  | _ :: _ => none
theorem strs_rp {W : Wd} : ∀ {ds : List D} {bs : List Str} {vs : List V}, strsD ds = some bs → RpL K W ds vs → vs = bs.map V.str
  | [], bs, vs, h, r => by
    have e := Option.some.inj h
    rw [← e, r.nilI]
    rfl
  | .str b :: ds, bs, vs, h, r => by
    obtain ⟨v, r', e, h1, h2⟩ := r.consI
    have h' : (strsD ds).map (b :: ·) = some bs := h
    cases q : strsD ds with
    | none =>
      rw [q] at h'
      cases h'
    | some cs =>
      rw [q] at h'
      have e2 : b :: cs = bs := Option.some.inj h'
      have e3 : v = .str b := by simpa only [Rp] using h1
      rw [e, e3, strs_rp q h2, ← e2]
      rfl
  | .non :: _, _, _, h, _ => by cases h
  | .int _ :: _, _, _, h, _ => by cases h
  | .bl _ :: _, _, _, h, _ => by cases h
  | .ty _ :: _, _, _, h, _ => by cases h
  | .cls _ :: _, _, _, h, _ => by cases h
  | .lst _ :: _, _, _, h, _ => by cases h
  | .tup _ :: _, _, _, h, _ => by cases h
  | .dct _ _ :: _, _, _, h, _ => by cases h
  | .ins _ _ _ :: _, _, _, h, _ => by cases h
  | .obj _ :: _, _, _, h, _ => by cases h
  | .scr _ :: _, _, _, h, _ => by cases h
def fJoin (a : Str) (d : D) (M : Mem) : Res D := match (seqOf d).bind strsD with
  | some ys => if (ys.map (·.length)).sum + ys.length * a.length ≤ 16777216 then .ok (.str (Txt.join a ys)) M else .bad
  | none => .bad
theorem mt1_join : Mt1S K (fun x xs H Q => ∃ a p, ∃ ys : List Str, x = .str a ∧ xs = [.ref p] ∧ (SqL K H p (ys.map V.str) ∨ SqT K H p (ys.map V.str)) ∧
    (ys.map (·.length)).sum + ys.length * a.length ≤ 16777216 ∧ Q (.str (Txt.join a ys)) H) fJoin := fun hid M ad H a d v Q E k r q => by
  unfold fJoin at q
  cases e1 : seqOf d with
  | none =>
    rw [e1] at q
    exact q.elim
  | some ds =>
    rw [e1] at q
    have q1 : (pV K hid Q E).P M ad H (match strsD ds with
      | some ys => if (ys.map (·.length)).sum + ys.length * a.length ≤ 16777216 then .ok (.str (Txt.join a ys)) M else .bad
      | none => .bad) := q
    cases e2 : strsD ds with
    | none =>
      rw [e2] at q1
      exact q1.elim
    | some ys =>
      rw [e2] at q1
      have q2 : (pV K hid Q E).P M ad H (if (ys.map (·.length)).sum + ys.length * a.length ≤ 16777216 then .ok (.str (Txt.join a ys)) M else .bad) := q1
      by_cases c : (ys.map (·.length)).sum + ys.length * a.length ≤ 16777216
      · rw [if_pos c] at q2
        obtain ⟨p, vs, e3, l1, l2⟩ := seqOf_rp e1 r
        have e4 := strs_rp e2 l2
        subst e3 e4
        exact ⟨a, p, ys, rfl, rfl, l1, c, q2 _ ad H Fr.refl k (rp_str _)⟩
      · rw [if_neg c] at q2
        exact q2.elim

/-! ### writes into the memory -/
theorem set_live {i : Nat} {o o' : MO} (e : M[i]? = some o) (ho : o ≠ .dead) (ho' : o' ≠ .dead) (j : Nat) : lvI (M.set i o') j ↔ lvI M j := by
  unfold lvI
  by_cases c : i = j
  · subst c
    have hl := (List.getElem?_eq_some_iff.mp e).1
    rw [List.getElem?_set_self hl, e]
    exact ⟨fun _ => ⟨o, rfl, ho⟩, fun _ => ⟨o', rfl, ho'⟩⟩
  · rw [List.getElem?_set_ne c]
theorem set_bad {i : Nat} {o o' : MO} (e : M[i]? = some o) (ho : o ≠ .dead) (ho' : o' ≠ .dead) (a : Addr) : badOf hid (M.set i o') ad a ↔ badOf hid M ad a := by
  unfold badOf
  simp only [set_live e ho ho']
theorem mem_set {i : Nat} {a : Addr} {o o' : MO} {u : HO} (k : Ok K hid M ad H) (e : M[i]? = some o) (ho : o ≠ .dead) (ea : ad[i]? = some a) (ho' : o' ≠ .dead) :
    Fr hid M ad H (M.set i o') ad (upd H a u) ∧ (MOk K (wd hid (M.set i o') ad (upd H a u)) a o' → Ok K hid (M.set i o') ad (upd H a u)) := by
  have hb : badOf hid M ad a := .inr ⟨i, ⟨o, e, ho⟩, ea⟩
  have le : Le (wd hid M ad H) (wd hid (M.set i o') ad (upd H a u)) := ⟨⟨[], by simp⟩, fun b x eb n => ⟨by
    show upd H a u b = some x
    rw [upd_ne (fun z : b = a => n (by rw [z]; exact hb))]
    exact eb, fun z => n ((set_bad e ho ho' b).mp z)⟩⟩
  have nha : ¬ hid a := k.nh i a ⟨o, e, ho⟩ ea
  refine ⟨⟨le, fun b z => upd_ne (fun q : b = a => nha (by rw [← q]; exact z)), fun b z => ?_⟩, fun mo => ⟨by rw [List.length_set]; exact k.len, fun j l b g1 g2 => k.inj j l b ((set_live e ho ho' j).mp g1) ((set_live e ho ho' l).mp g2), fun j b g1 => k.nh j b ((set_live e ho ho' j).mp g1), fun j x b g1 g2 => ?_, fun b z => ?_⟩⟩
  · by_cases q : b = a
    · subst q
      rw [upd_same]
      simp
    · rw [upd_ne q]
      exact z
  · by_cases c : i = j
    · subst c
      have hl := (List.getElem?_eq_some_iff.mp e).1
      rw [List.getElem?_set_self hl] at g1
      rw [ea] at g2
      cases g1
      cases g2
      exact mo
    · rw [List.getElem?_set_ne c] at g1
      by_cases hd : x = .dead
      · subst hd
        trivial
      · have ne : b ≠ a := fun q => by
          subst q
          exact c (k.inj i j b ⟨o, e, ho⟩ ⟨x, g1, hd⟩ ea g2)
        exact MOk.le le (upd_ne ne) (k.ob j x b g1 g2)
  · by_cases q : b = a
    · subst q
      rw [upd_same]
      simp
    · rw [upd_ne q]
      exact k.hh b z
/-- o[i] = e, o a list of the memory -/
def mSetIx (me mo mi : SE) : SS := fun ρ M => liftE (me ρ M) ρ fun d M1 => liftE (mo ρ M1) ρ fun x M2 => liftE (mi ρ M2) ρ fun y M3 => match x, y with
  | .obj j, .int i => match M3[j]? with
    | some (.lst ds) => match ixN ds.length i with
      | some n => .ok (.nx ρ) (M3.set j (.lst (ds.set n d)))
      | none => .bad
    | _ => .bad
  | _, _ => .bad
theorem snd_setIx {te to ti : TE} {me mo mi : SE} (he : Snd K W te me) (ho : Snd K W to mo) (hi : Snd K W ti mi) : SndS K W (tAsg te (gSub to ti rSetL)) (mSetIx me mo mi) := fun hid σ ρ M ad H E st q => by
  refine he.stepS st q fun d M1 v ad1 H1 f1 s1 rv q1 => ?_
  refine ho.stepS s1 q1 fun x M2 vx ad2 H2 f2 s2 rx q2 => ?_
  refine hi.stepS s2 q2 fun y M3 vy ad3 H3 f3 s3 ry q3 => ?_
  have rv3 := Rp.le (f2.trans f3).le d rv
  have rx3 := Rp.le f3.le x rx
  cases x with
  | obj j =>
    cases y with
    | int i =>
      have ey : vy = .int i := by simpa only [Rp] using ry
      simp only [Rp] at rx3
      obtain ⟨a, ex, ea⟩ := rx3
      have q4 : PostS K W hid (hS hid ρ σ) M3 ad3 H3 E (match M3[j]? with
        | some (.lst ds) => (match ixN ds.length i with
          | some n => (Res.ok (Fl.nx ρ) (M3.set j (.lst (ds.set n d))) : Res Fl)
          | none => .bad)
        | _ => .bad) := q3
      cases e : M3[j]? with
      | none =>
        rw [e] at q4
        exact q4.elim
      | some o =>
        rw [e] at q4
        cases o with
        | lst ds =>
          have q5 : PostS K W hid (hS hid ρ σ) M3 ad3 H3 E (match ixN ds.length i with
            | some n => (Res.ok (Fl.nx ρ) (M3.set j (.lst (ds.set n d))) : Res Fl)
            | none => .bad) := q4
          cases e2 : ixN ds.length i with
          | none =>
            rw [e2] at q5
            exact q5.elim
          | some n =>
            rw [e2] at q5
            obtain ⟨vs, g1, g2⟩ := s3.ok.ob j _ a e ea
            obtain ⟨f4, k4⟩ := mem_set (u := .lst (vs.set n v)) (o' := .lst (ds.set n d)) s3.ok e (by intro z; cases z) ea (by intro z; cases z)
            have k5 := k4 ⟨vs.set n v, upd_same, RpL.set (Rp.le f4.le d rv3) n (RpL.le f4.le ds g2)⟩
            refine ⟨a, vs, i, n, ex, ey, g1, by rw [g2.len]; exact e2, ?_⟩
            exact q5 σ ad3 _ (FrG.of f4 fun _ z => .inl z) (s3.fr f4 k5)
        | _ => exact q4.elim
    | _ => exact q3.elim
  | _ => cases y <;> exact q3.elim
/-- o.pop(k), o a list of the memory -/
def fPopAt (x : D) (k : Int) (M : Mem) : Res D := match x with
  | .obj j => match M[j]? with
    | some (.lst ds) => if -(2 ^ 63) ≤ k ∧ k < 2 ^ 63 then (match seqIndex? k ds.length with
      | some n => (match ds[n]? with
        | some d => .ok d (M.set j (.lst (ds.eraseIdx n)))
        | none => .bad)
      | none => .bad) else .bad
    | _ => .bad
  | _ => .bad
def mPopAt (mo : SE) (k : Int) : SE := fun ρ M => (mo ρ M).bind fun x M1 => fPopAt x k M1
theorem rpl_erase {W : Wd} : ∀ {ds : List D} {vs : List V} (n : Nat), RpL K W ds vs → RpL K W (ds.eraseIdx n) (vs.eraseIdx n)
  | [], vs, n, r => by
    rw [r.nilI]
    cases n <;> exact RpL.nil
  | d :: ds, vs, 0, r => by
    obtain ⟨v, r', e, h1, h2⟩ := r.consI
    subst e
    exact h2
  | d :: ds, vs, n + 1, r => by
    obtain ⟨v, r', e, h1, h2⟩ := r.consI
    subst e
    exact RpL.cons h1 (rpl_erase n h2)
theorem snd_popAt {to : TE} {mo : SE} {k : Int} (ho : Snd K W to mo) : Snd K W (tBM K "list" rPopAt to (tCons (tC (.int k)) tNil)) (mPopAt mo k) := fun hid σ ρ M ad H Q kk rr h => by
  refine ho.step kk rr (pV K hid Q (wx W σ)) h fun x M1 vx ad1 H1 f1 k1 rx r1 h1 => ?_
  cases x with
  | obj j =>
    simp only [Rp] at rx
    obtain ⟨a, ex, ea⟩ := rx
    have q : (pV K hid Q (wx W σ)).P M1 ad1 H1 (match M1[j]? with
      | some (.lst ds) => (if -(2 ^ 63) ≤ k ∧ k < 2 ^ 63 then (match seqIndex? k ds.length with
        | some n => (match ds[n]? with
          | some d => Res.ok d (M1.set j (.lst (ds.eraseIdx n)))
          | none => .bad)
        | none => .bad) else .bad)
      | _ => .bad) := h1
    cases e : M1[j]? with
    | none =>
      rw [e] at q
      exact q.elim
    | some o =>
      rw [e] at q
      cases o with
      | lst ds =>
        have q2 : (pV K hid Q (wx W σ)).P M1 ad1 H1 (if -(2 ^ 63) ≤ k ∧ k < 2 ^ 63 then (match seqIndex? k ds.length with
          | some n => (match ds[n]? with
            | some d => Res.ok d (M1.set j (.lst (ds.eraseIdx n)))
            | none => .bad)
          | none => .bad) else .bad) := q
        by_cases c : -(2 ^ 63) ≤ k ∧ k < 2 ^ 63
        · rw [if_pos c] at q2
          cases e2 : seqIndex? k ds.length with
          | none =>
            rw [e2] at q2
            exact q2.elim
          | some n =>
            rw [e2] at q2
            have q3 : (pV K hid Q (wx W σ)).P M1 ad1 H1 (match ds[n]? with
              | some d => Res.ok d (M1.set j (.lst (ds.eraseIdx n)))
              | none => .bad) := q2
            cases e3 : ds[n]? with
            | none =>
              rw [e3] at q3
              exact q3.elim
            | some d =>
              rw [e3] at q3
              obtain ⟨vs, g1, g2⟩ := k1.ob j _ a e ea
              obtain ⟨v, g3, g4⟩ := g2.get e3
              obtain ⟨f4, k4⟩ := mem_set (u := .lst (vs.eraseIdx n)) (o' := .lst (ds.eraseIdx n)) k1 e (by intro z; cases z) ea (by intro z; cases z)
              have k5 := k4 ⟨vs.eraseIdx n, upd_same, rpl_erase n (RpL.le f4.le ds g2)⟩
              subst ex
              refine ⟨.inl ⟨rfl, vs, SqL.of g1⟩, a, vs, k, n, v, rfl, rfl, g1, c.1, c.2, by rw [g2.len]; exact e2, g3, ?_⟩
              exact q3 v ad1 _ f4 k5 (Rp.le f4.le d g4)
        · rw [if_neg c] at q2
          exact q2.elim
      | _ => exact q.elim
  | _ => exact h1.elim
/-- == and != of a list of the memory and data -/
def pyM (M : Mem) : D → Option PyData
  | .obj j => match M[j]? with
    | some (.lst ds) => (pyL ds).map .list
    | _ => none
  | d => py d
theorem pyM_dp (k : Ok K hid M ad H) {d : D} {p : PyData} {v : V} (h : pyM M d = some p) (r : Rp K (wd hid M ad H) d v) : Dp K H v p := by
  cases d with
  | obj j =>
    simp only [Rp] at r
    obtain ⟨a, ex, ea⟩ := r
    have h' : (match M[j]? with
      | some (.lst ds) => (pyL ds).map PyData.list
      | _ => none) = some p := h
    cases e : M[j]? with
    | none =>
      rw [e] at h'
      cases h'
    | some o =>
      rw [e] at h'
      cases o with
      | lst ds =>
        have h2 : (pyL ds).map PyData.list = some p := h'
        cases e2 : pyL ds with
        | none =>
          rw [e2] at h2
          cases h2
        | some ps =>
          rw [e2] at h2
          have e3 : PyData.list ps = p := Option.some.inj h2
          obtain ⟨vs, g1, g2⟩ := k.ob j _ a e ea
          subst ex e3
          exact .lst (SqL.of g1) (pyL_dp ds e2 g2)
      | _ => cases h'
  | _ => exact py_dp _ h r
def fEqM (neg : Bool) : D → D → Mem → Res D := fun x y M => match pyM M x, pyM M y with
  | some p, some q => if (SeqAt.shaped p && SeqAt.shaped q) = true then .ok (.bl (if neg then !PyData.eqv p q else PyData.eqv p q)) M else .bad
  | _, _ => .bad
theorem ops_neM : OpS K (rNeA K) (fEqM true) := fun hid M ad H dx dy x y Q E k rx ry q => by
  unfold fEqM at q
  cases e1 : pyM M dx with
  | none =>
    rw [e1] at q
    exact q.elim
  | some u =>
    cases e2 : pyM M dy with
    | none =>
      rw [e1, e2] at q
      exact q.elim
    | some w =>
      rw [e1, e2] at q
      have q' : (pV K hid Q E).P M ad H (if (SeqAt.shaped u && SeqAt.shaped w) = true then .ok (.bl (!PyData.eqv u w)) M else .bad) := q
      by_cases c : (SeqAt.shaped u && SeqAt.shaped w) = true
      · rw [if_pos c] at q'
        obtain ⟨c1, c2⟩ := Bool.and_eq_true_iff.mp c
        exact .inr ⟨u, w, pyM_dp k e1 rx, pyM_dp k e2 ry, c1, c2, q' _ ad H Fr.refl k (rp_bl _)⟩
      · rw [if_neg c] at q'
        exact q'.elim
end
end DL

set_option maxHeartbeats 4000000
/-! DL, part j: the facts of the top; a def as it stands; calls by keywords; the law's end -/
namespace DL
open PySem PySem.Spec PyProof.Rows L2
/-- what the head says of the top -/
structure Top (fa : List He.Fa) (fn : List He.DefD) (K : PySem.W.Frag) (mg : Str → Option Value) : Prop where
  ex : ∃ h : Heap, K.In h ∧ h.Ns mainGlobals mg
  says : He.SaysD fa fn K
section
variable {fa : List He.Fa} {fn : List He.DefD} {K : PySem.W.Frag} {mg : Str → Option Value}
theorem Top.glo (T : Top fa fn K mg) (i : Nat) {x : Str} (h : fa[i]? = some (.glo x) := by rfl) : mg x = some (.ref (He.ga K x)) := by
  obtain ⟨hp, X, G⟩ := T.ex
  exact He.glo_ok X G (T.says.fact i h)
theorem Top.free (T : Top fa fn K mg) (i : Nat) {x : Str} (h : fa[i]? = some (.free x) := by rfl) : mg x = none := by
  obtain ⟨hp, X, G⟩ := T.ex
  exact He.free_ok X G (T.says.fact i h)
theorem Top.int (T : Top fa fn K mg) (i : Nat) {x : Str} {n : Int} (h : fa[i]? = some (.int x n) := by rfl) : ∃ t, mg x = some (.int n t) := by
  obtain ⟨hp, X, G⟩ := T.ex
  exact He.int_ok X G (T.says.fact i h)
theorem Top.str (T : Top fa fn K mg) (i : Nat) {x z : Str} (h : fa[i]? = some (.str x z) := by rfl) : ∃ t, mg x = some (.str z t) := by
  obtain ⟨hp, X, G⟩ := T.ex
  exact He.str_ok X G (T.says.fact i h)
theorem Top.def_ (T : Top fa fn K mg) (i : Nat) {d : He.DefD} (h : fn[i]? = some d := by rfl) : ∃ fd, FunD K d.name d.qual d.params d.body d.scope (d.dvs K) (d.kws K) (He.fAd K d.at_) fd := T.says.def_ i h
end
/-- a def of the top keeps its promise, at the level k -/
structure Good (P : Program) (w : World) (K : PySem.W.Frag) (mg : Str → Option Value) (base : Heap) (k : Nat) (x : Str) (ps : List Str) (fd : FuncData) (g : GF) : Prop where
  ok : FnOk P w K mg base (L2.CX P w) k (He.ga K x) fd ps (spD K ps.length g)
  mgx : mg x = some (.ref (He.ga K x))
  kp : PySem.W.keepIn K (.ref (He.ga K x)) = true
section
variable {P : Program} {w : World} {K : PySem.W.Frag} {mg : Str → Option Value} {base : Heap}
theorem fnok_bad {k : Nat} {f : Addr} {fd : FuncData} {ps : List Str} : FnOk P w K mg base (L2.CX P w) k f fd ps (spD K ps.length fun _ _ => .bad) :=
  ⟨fun vs H Q E h => spD_len h, fun A outer s H args us vs Q E hr he hb hv hs => by
    obtain ⟨_, _, _, _, _, _, _, q⟩ := hs
    exact q.elim⟩
end
/-! ### calls by keywords -/
section
variable {X : Cx} {CX : CXT} {k n : Nat} {f : Addr} {fd : FuncData} {ps ks : List Str} {sp : Sp} {E : L2.St → XK} {x : Str} {p pos : Pos} {e : Expr} {es : List Expr} {kws : List Keyword} {t tk : TA} {g : List Value → List Value → List Value} {gV : List V → List V → List V}
def tCallNS (n m : Nat) (sp : Sp) (gV : List V → List V → List V) (E : L2.St → XK) (t tk : TA) : TE := fun σ H Q => t σ H fun vs H1 => tk σ H1 fun zs H2 => vs.length = n ∧ zs.length = m ∧ sp (gV vs zs) H2 Q (E σ)
theorem run_fnNS {pins : List (Addr × Obj)} {σ : L2.St} {H : Hp} {s : Shared} {Q : VK} {us ws : List Value} {vs zs : List V} (F : FnOk X.prog X.w X.K X.mg X.base CX k f fd ps sp) (hr : Room k X.A) (hb : KBn X.K fd ps n ks g gV) (hx : PassesAt CX X σ (E σ))
    (I : Inv X pins σ H s) (r : Vals vs us) (rz : Vals zs ws) (l1 : vs.length = n) (l2 : zs.length = ks.length) (h : sp (gV vs zs) H Q (E σ)) : wpAny (model X.prog X.w) X.A (call (.ref f) us (ks.zip ws)) (EP X pins σ Q) X.xe s := by
  have r2 := hb.rel r rz
  refine wpAny_call (codeAny_mono (F.run X.A X.stack s H ⟨us, ks.zip ws⟩ (g us ws) (gV vs zs) Q (E σ) hr I.env0 (hb.to s us ws I.kIn (r.length.symm.trans l1) (rz.length.symm.trans l2)) r2 h) fun r s' hq => ?_)
  cases r with
  | error e => exact hx pins H s e s' I hq
  | ok fl =>
    cases fl with
    | ret u => exact I.after hq
    | next => exact False.elim hq
    | brk => exact False.elim hq
    | cont => exact False.elim hq
theorem pe_callNS (F : FnOk X.prog X.w X.K X.mg X.base CX k f fd ps sp) (hr : Room k X.A) (hg : Gl X x) (hm : X.mg x = some (.ref f)) (hk : PySem.W.keepIn X.K (.ref f) = true) (hb : KBn X.K fd ps n ks g gV) (hx : ∀ σ, PassesAt CX X σ (E σ))
    (ha : PA X (e :: es) t) (hkw : PK X kws tk) (hall : (backToKw pos (keywordEach kws X.env)).all (·.1.isSome) = true := by rfl) (hks : (backToKw pos (keywordEach kws X.env)).filterMap (·.1) = ks := by rfl)
    (hdb : (x == ("__debug__" : Str)) = false := by decide) (he : starEach (e :: es) X.env = (false, eval e X.env) :: starEach es X.env := by rfl)
    (hpl : ((backTo pos (starEach (e :: es) X.env)).any (·.1) || (backToKw pos (keywordEach kws X.env)).any (·.1.isNone)) = false := by rfl) :
    PE X (.Call (.Name x p) (e :: es) kws pos) (tCallNS n ks.length sp gV E t tk) := by
  refine ⟨fun pins s σ H Q I h => ?_⟩
  refine wpAny_Call_Name_kw (ld_glob I hg hm ?_ hdb)
  refine PySem.W.callWith_KW (h₀ := X.base) I.ok.mod.kin hk hall (thn (ha.run pos pins s σ H _ I h) fun us s1 ⟨vs, H1, I1, r, q⟩ => ?_) hpl he
  refine thn (hkw.run pos pins s1 σ H1 _ I1 q) fun ws s2 ⟨zs, H2, I2, rz, l1, l2, q2⟩ => ⟨I2.kIn, ?_⟩
  rw [hks]
  exact run_fnNS F hr hb (hx σ) I2 r rz l1 l2 q2
theorem pe_callNS0 (F : FnOk X.prog X.w X.K X.mg X.base CX k f fd ps sp) (hr : Room k X.A) (hg : Gl X x) (hm : X.mg x = some (.ref f)) (hk : PySem.W.keepIn X.K (.ref f) = true) (hb : KBn X.K fd ps 0 ks g gV) (hx : ∀ σ, PassesAt CX X σ (E σ))
    (hkw : PK X kws tk) (hall : (backToKw pos (keywordEach kws X.env)).all (·.1.isSome) = true := by rfl) (hks : (backToKw pos (keywordEach kws X.env)).filterMap (·.1) = ks := by rfl)
    (hdb : (x == ("__debug__" : Str)) = false := by decide)
    (hpl : ((backTo pos (starEach [] X.env)).any (·.1) || (backToKw pos (keywordEach kws X.env)).any (·.1.isNone)) = false := by rfl) :
    PE X (.Call (.Name x p) [] kws pos) (tCallNS 0 ks.length sp gV E tNil tk) := by
  refine ⟨fun pins s σ H Q I h => ?_⟩
  refine wpAny_Call_Name_kw (ld_glob I hg hm ?_ hdb)
  refine PySem.W.callWith_KW0 (h₀ := X.base) I.ok.mod.kin hk hall ?_ hpl
  refine thn (hkw.run pos pins s σ H _ I h) fun ws s2 ⟨zs, H2, I2, rz, l1, l2, q2⟩ => ⟨I2.kIn, ?_⟩
  rw [hks]
  exact run_fnNS (us := []) (vs := []) F hr hb (hx σ) I2 .nil rz rfl l2 q2
end
/-- no default is taken: the positional ones, then the keywords' in an order of their own -/
theorem kbn_plain {K : PySem.W.Frag} {x qual : Str} {params : Arguments} {body : List Stmt} {scope : Scope} {f : Addr} {fd : FuncData} {ps : List Str} (F : FunD K x qual params body scope [] [] f fd) (n : Nat) (ks : List Str) (g : {α : Type} → List α → List α → List α)
    (hrel : ∀ {vs zs : List V} {us ws : List Value}, Vals vs us → Vals zs ws → Vals (g vs zs) (g us ws))
    (h : ∀ (kV doc pm : Value) (an : Option Addr) (cdv ct : Value) (us ws : List Value), us.length = n → ws.length = ks.length → bindArgs (PySem.W.fnOf x qual params body scope .none kV doc pm an cdv ct) ⟨us, ks.zip ws⟩ = pure (ps.zip (g us ws))) :
    KBn K fd ps n ks (fun us ws => g us ws) (fun vs zs => g vs zs) := by
  obtain ⟨oc, od, dV, kV, doc, pm, an, cdv, ct, osl, rfl, lk, hcd, hD, hK⟩ := F.ex
  rcases hD with ⟨_, rfl⟩ | ⟨e, _⟩
  · exact ⟨fun s us ws X l1 l2 => .of_eq (h kV doc pm an cdv ct us ws l1 l2), fun r1 r2 => hrel r1 r2⟩
  · exact absurd rfl e
section
variable {K : PySem.W.Frag} {W : WX}
def mCallK (n a b : Nat) (g : GF) (pm : List D → List D → List D) (ma mk : SA) : SE := fun ρ M => (ma ρ M).bind fun ds M1 => (mk ρ M1).bind fun es M2 => if ds.length = a ∧ es.length = b ∧ (pm ds es).length = n then g (pm ds es) M2 else .bad
theorem snd_callK {n a b : Nat} {g : GF} {pm : List D → List D → List D} {gV : List V → List V → List V} {ta tk : TA} {ma mk : SA} (hp : ∀ (W : Wd) (ds es : List D) (vs zs : List V), RpL K W ds vs → RpL K W es zs → RpL K W (pm ds es) (gV vs zs)) (ha : SndA K W ta ma) (hk : SndA K W tk mk) :
    Snd K W (tCallNS a b (spD K n g) gV (WE W) ta tk) (mCallK n a b g pm ma mk) := fun hid σ ρ M ad H Q k r h => by
  refine ha.step k r (pV K hid Q (wx W σ)) h fun ds M1 xs ad1 H1 f1 k1 rx r1 h1 => ?_
  refine hk.step k1 r1 (pV K hid Q (wx W σ)) h1 fun es M2 zs ad2 H2 f2 k2 rz r2 h2 => ?_
  have rx2 := RpL.le f2.le ds rx
  by_cases c : ds.length = a ∧ es.length = b ∧ (pm ds es).length = n
  · rw [if_pos c] at h2
    exact ⟨by rw [rx2.len]; exact c.1, by rw [rz.len]; exact c.2.1, hid, pm ds es, M2, ad2, c.2.2, k2, hp _ ds es xs zs rx2 rz, h2⟩
  · rw [if_neg c] at h2
    exact h2.elim
end
/-! ### the law's end -/
theorem ok_none {K : PySem.W.Frag} {H : Hp} : Ok K (fun _ => False) [] [] H :=
  ⟨rfl, fun i j a ⟨o, z, _⟩ => by simp at z, fun i a ⟨o, z, _⟩ => by simp at z, fun i o a z => by simp at z, fun a z => z.elim⟩
theorem law_sp {K : PySem.W.Frag} {g : GF} {H : Hp} {a : Addr} {ns : List Int} (hS : SqL K H a (ns.map V.int)) (hg : ∃ M', g [.scr ns] [] = .ok (.bl true) M') : spD K 1 g [.ref a] H (fun v _ => v = .bl true) fun _ _ _ => False := by
  obtain ⟨M', e⟩ := hg
  refine ⟨fun _ => False, [.scr ns], [], [], rfl, ok_none, RpL.cons ?_ RpL.nil, ?_⟩
  · simp only [Rp]
    refine ⟨a, rfl, hS.imp (fun z => ⟨z, ?_⟩) id⟩
    rintro (q | ⟨i, ⟨o, z, _⟩, _⟩)
    · exact q
    · simp at z
  · rw [e]
    exact fun v ad' H' _ _ r => by simpa only [Rp] using r
end DL

set_option maxHeartbeats 4000000
/-! DL, part k: joint forms that the printer uses -/
namespace DL
open PySem PySem.Spec PyProof.Rows L2
section
variable {K : PySem.W.Frag} {hid h1 h2 : Addr → Prop} {M M1 : Mem} {ad ad1 : List Addr} {H H1 : Hp} {σ : L2.St} {ρ : Rho} {W : WX}
theorem ops_mulL : OpS K rRep fMulL := fun hid M ad H dx dy x y Q E k rx ry q => by
  cases dx with
  | lst i =>
    cases dy with
    | int n =>
      have q' : (pV K hid Q E).P M ad H (if 0 ≤ n ∧ n < 2 ^ 63 ∧ i.length * n.toNat ≤ sizeLine then .ok (.lst (List.replicate n.toNat i).flatten) M else .bad) := q
      by_cases c : 0 ≤ n ∧ n < 2 ^ 63 ∧ i.length * n.toNat ≤ sizeLine
      · rw [if_pos c] at q'
        simp only [Rp] at rx
        obtain ⟨a, vs, e1, h1, h2⟩ := rx
        have e2 : y = .int n := by simpa only [Rp] using ry
        refine ⟨a, n, vs, e1, e2, h1.1, by omega, c.2.1, by rw [h2.len]; exact c.2.2, fun p hp => ?_⟩
        have r2 : ∀ m : Nat, RpL K (wd hid M ad H) (List.replicate m i).flatten (List.replicate m vs).flatten := fun m => by
          induction m with
          | zero => exact RpL.nil
          | succ m ih =>
            rw [List.replicate_succ, List.replicate_succ, List.flatten_cons, List.flatten_cons]
            exact h2.append ih
        obtain ⟨f, k2, r3⟩ := new_lst k hp (r2 n.toNat)
        exact q' _ _ _ f k2 r3
      · rw [if_neg c] at q'
        exact q'.elim
    | _ => exact q.elim
  | _ => exact q.elim
def rMulA : R2 := fun x y H Q => rI CMul (fun i j => .int (i * j)) x y H Q ∨ rRep x y H Q
theorem ops_mul : OpS K rMulA fMul := ops_mulI.or ops_mulL
theorem opr_mul {X : Cx} : OpR X (binaryOp .Mult) rMulA := op_mul.or op_rep
theorem ops_eqM : OpS K (rEqD K) (fEqM false) := fun hid M ad H dx dy x y Q E k rx ry q => by
  unfold fEqM at q
  cases e1 : pyM M dx with
  | none =>
    rw [e1] at q
    exact q.elim
  | some u =>
    cases e2 : pyM M dy with
    | none =>
      rw [e1, e2] at q
      exact q.elim
    | some w =>
      rw [e1, e2] at q
      have q' : (pV K hid Q E).P M ad H (if (SeqAt.shaped u && SeqAt.shaped w) = true then .ok (.bl (PyData.eqv u w)) M else .bad) := q
      by_cases c : (SeqAt.shaped u && SeqAt.shaped w) = true
      · rw [if_pos c] at q'
        obtain ⟨c1, c2⟩ := Bool.and_eq_true_iff.mp c
        exact ⟨u, w, pyM_dp k e1 rx, pyM_dp k e2 ry, c1, c2, q' _ ad H Fr.refl k (rp_bl _)⟩
      · rw [if_neg c] at q'
        exact q'.elim
theorem ops_neM1 : OpS K (rNeD K) (fEqM true) := fun hid M ad H dx dy x y Q E k rx ry q => by
  unfold fEqM at q
  cases e1 : pyM M dx with
  | none =>
    rw [e1] at q
    exact q.elim
  | some u =>
    cases e2 : pyM M dy with
    | none =>
      rw [e1, e2] at q
      exact q.elim
    | some w =>
      rw [e1, e2] at q
      have q' : (pV K hid Q E).P M ad H (if (SeqAt.shaped u && SeqAt.shaped w) = true then .ok (.bl (!PyData.eqv u w)) M else .bad) := q
      by_cases c : (SeqAt.shaped u && SeqAt.shaped w) = true
      · rw [if_pos c] at q'
        obtain ⟨c1, c2⟩ := Bool.and_eq_true_iff.mp c
        exact ⟨u, w, pyM_dp k e1 rx, pyM_dp k e2 ry, c1, c2, q' _ ad H Fr.refl k (rp_bl _)⟩
      · rw [if_neg c] at q'
        exact q'.elim
def fEqA : D → D → Mem → Res D := fun x y M => (fEqS false x y M).els (fEqM false x y M)
def fNeA : D → D → Mem → Res D := fun x y M => (fEqS true x y M).els (fEqM true x y M)
theorem ops_eqA : OpS K (rEqA K) fEqA := ops_eqS.or ops_eqM
theorem ops_neA : OpS K (rNeA K) fNeA := ops_neS.or ops_neM1
theorem snd_testR {te : TE} {m : SE} (s : Snd K W te m) : SndT K W (tTest te) (mTest m) := snd_test s
/-- a comprehension's tests -/
def mYes : ST := fun _ M => .ok true M
theorem snd_yes : SndT K W tYes mYes := fun hid σ ρ M ad H Q k r h => h ad H Fr.refl k

/-! ### a list, a tuple or a text is walked -/
def iAny (K : PySem.W.Frag) (te : TE) : TI := fun σ H R => iList K te σ H R ∨ (iTup K te σ H R ∨ iStr te σ H R)
theorem pi_any {X : Cx} {tg l : Expr} {tl : TE} (h : PE X l tl) : PI X tg l (iAny X.K tl) :=
  ⟨fun pins s σ H R I q => q.elim ((pi_list h).run pins s σ H R I) fun q => q.elim ((pi_tup h).run pins s σ H R I) ((pi_str h).run pins s σ H R I)⟩
def itemsOf (d : D) (M : Mem) : Res (List D) := match d with
  | .lst ds => .ok ds M
  | .tup ds => .ok ds M
  | .str x => .ok (signsD x) M
  | _ => .bad
def mIAny (m : SE) : SI := fun ρ M => (m ρ M).bind fun d M1 => itemsOf d M1
theorem sndi_any {te : TE} {m : SE} (s : Snd K W te m) : SndI K W (iAny K te) (mIAny m) := fun hid σ ρ M ad H R k r h => by
  have h' : (pI K hid R (wx W σ)).P M ad H ((m ρ M).bind fun d M1 => itemsOf d M1) := h
  cases e : m ρ M with
  | ok d M1 =>
    rw [e] at h'
    cases d with
    | lst ds => exact .inl (sndi_list s hid σ ρ M ad H R k r (by unfold mIList; rw [e]; exact h'))
    | tup ds => exact .inr (.inl (sndi_tup s hid σ ρ M ad H R k r (by unfold mITup; rw [e]; exact h')))
    | str z => exact .inr (.inr (sndi_str s hid σ ρ M ad H R k r (by unfold mIStr; rw [e]; exact h')))
    | _ => exact h'.elim
  | exc c ns ds M1 =>
    rw [e] at h'
    exact .inl (sndi_list s hid σ ρ M ad H R k r (by unfold mIList; rw [e]; exact h'))
  | bad =>
    rw [e] at h'
    exact h'.elim
end
/-! ### the rules with the written part named -/
section
variable {X : Cx} {K : PySem.W.Frag}
theorem slrK (h : X.K = K) : SlR X (rSlD K) := by subst h; exact slr_all
theorem ixK (h : X.K = K) : IxR X (rIx K) := by subst h; exact ix_seq
theorem addK (h : X.K = K) : OpR X (binaryOp .Add) (rAddA K) := by subst h; exact opr_add
theorem eqK (h : X.K = K) (hu : X.A.units + 64 < cLine) : OpR X (compareOp .Eq) (rEqA K) := by subst h; exact opr_eq hu
theorem neK (h : X.K = K) (hu : X.A.units + 64 < cLine) : OpR X (compareOp .NotEq) (rNeA K) := by subst h; exact opr_ne hu
theorem inK (h : X.K = K) : OpR X (compareOp .In) (rInA K) := by subst h; exact opr_in
theorem notInK (h : X.K = K) : OpR X (compareOp .NotIn) (rNotInA K) := by subst h; exact opr_notIn
theorem allK (h : X.K = K) (hc : X.calm = true) : CallR X (.builtin "all") (rAll K) := by subst h; exact cr_all hc
theorem anyK (h : X.K = K) (hc : X.calm = true) : CallR X (.builtin "any") (rAny K) := by subst h; exact cr_any hc
theorem lenK (h : X.K = K) : CallR X (.builtin "len") (fun xs H Q => ∃ x n, xs = [x] ∧ LenV K x H n ∧ Q (.int n) H) := by subst h; exact call_len
theorem isiK (h : X.K = K) : CallR X (.builtin "isinstance") (rIsi K) := by subst h; exact call_isi
theorem pi_anyK (h : X.K = K) {tg l : Expr} {tl : TE} (hl : PE X l tl) : PI X tg l (iAny K tl) := by subst h; exact pi_any hl
theorem pi_zipK (h : X.K = K) {e e2 : Expr} {ta : TA} {p pos tpos : Pos} {elts : List Expr} {kk : Nat} (hg : Gl X "zip") (hm : X.mg "zip" = none) (ha : PA X [e, e2] ta)
    (hs : starEach [e, e2] X.env = (false, eval e X.env) :: starEach [e2] X.env := by rfl) (hs2 : (backTo pos (starEach [e2] X.env)).any (·.1) = false := by rfl) : PI X (.Tuple elts kk tpos) (.Call (.Name "zip" p) [e, e2] [] pos) (iZip K ta) := by
  subst h
  exact pi_zip hg hm ha hs hs2
theorem pg_tupK (h : X.K = K) {es : List Expr} {k : Nat} {t : TGs} {n : Nat} {pos : Pos} (hc : X.calm = true) (hh : PGs X es t)
    (hn : (assignEach es X.env).length = n := by rfl) (hst : (assignEach es X.env).findIdx? (·.1) = none := by rfl) : PG X (.Tuple es k pos) (gTup K n t) := by
  subst h
  exact pg_tup hc hh hn hst
theorem pe_joinK (h : X.K = K) {o e : Expr} {to te : TE} {apos pos : Pos} (ho : PE X o to) (he : PE X e te) (hs : starEach [e] X.env = [(false, eval e X.env)] := by rfl) (hbase : attributeBase o "join" X.env (eval o X.env) = eval o X.env := by rfl) (hline : (apos.endLine == pos.line) = true := by rfl) :
    PE X (.Call (.Attribute o "join" apos) [e] [] pos) (tM1 (fun x xs H Q => ∃ a p, ∃ ys : List Str, x = .str a ∧ xs = [.ref p] ∧ (SqL K H p (ys.map V.str) ∨ SqT K H p (ys.map V.str)) ∧
      (ys.map (·.length)).sum + ys.length * a.length ≤ 16777216 ∧ Q (.str (Txt.join a ys)) H) to te) := by
  subst h
  exact pe_join ho he hs hbase hline
theorem pe_bmK (h : X.K = K) {o e : Expr} {es : List Expr} {to : TE} {t : TA} {name : Str} {apos cpos : Pos} {T id : String} {r : V → List V → Hp → VK → Prop} (pa : PlainAttrs T) (slot : Slot T name id) (hty : typeOf (.builtin id) = pure (.type "method_descriptor")) (hm : MtR X id r) (ho : PE X o to) (ha : PA X (e :: es) t)
    (hbase : attributeBase o name X.env (eval o X.env) = eval o X.env := by rfl)
    (hfew : ((backTo cpos (starEach (e :: es) X.env)).all (fun x => !x.1) && (backToKw cpos (keywordEach [] X.env)).all (fun x => x.1.isSome)
      && decide ((e :: es).length + ([] : List Keyword).length + (if ([] : List Keyword).isEmpty then 0 else 1) < 30)) = true := by rfl)
    (hline : (apos.endLine == cpos.line) = true := by rfl) (hs : starEach (e :: es) X.env = (false, eval e X.env) :: starEach es X.env := by rfl) (hplain : (backTo cpos (starEach es X.env)).any (·.1) = false := by rfl) :
    PE X (.Call (.Attribute o name apos) (e :: es) [] cpos) (tBM K T r to t) := by
  subst h
  exact pe_bm pa slot hty hm ho ha hbase hfew hline hs hplain
end
end DL

set_option maxHeartbeats 4000000
/-! DL, part l: the law's end over data -/
namespace DL
open PySem PySem.Spec PyProof.Rows L2
theorem walk_data {l : PySem.W.OpenLaw} {k : Nat} {q : Program} {loose : List Str} {XP : (Str → Option Value) → Heap → Prop} {YP : World → Heap → Prop} {d : DefRec} {x : Str} {g : GF}
    (hn : l.most = some 63) (hdf : d.params.defaults = []) (hr : Room k callerA) (law_true : ∀ ns : List Int, ns.length ≤ 63 → ∃ M', g [.scr ns] [] = .ok (.bl true) M')
    (F : ∀ (w : World) (mg : Str → Option Value) (fa : Addr) (h : Heap), YP w h → h.Ns mainGlobals mg → mg d.name = some (.ref fa) →
      ∃ (K : PySem.W.Frag) (fd : FuncData), K.In h ∧ (∀ (s : Shared) (u : Value), BindsTo s fd ⟨[u], []⟩ [(x, u)]) ∧
        ∀ base : Heap, FnOk l.prog w K mg base (L2.CX l.prog w) k fa fd [x] (spD K 1 g)) :
    PySem.W.WalkO q loose XP YP l.row.toRowW d [] (fun f vs => PySem.call f vs) := by
  refine Att.attach_call hn hdf fun w s₀ s₁ mg mb fa o pm cd doc a vs ns G Y ho hd hcd hmg hobj hints hlen hg => ?_
  obtain ⟨K, fd, KX, hb, hF⟩ := F w mg fa _ Y G.T.g hmg
  exact law_call KX G.T.g G.T.b G.T.builtins G.T.nolimit hg hobj hints (Nat.le_trans hlen (by decide)) hr (fun base _ _ => hF base) hb (fun H hO hS => law_sp hS (law_true ns hlen)) fun H e s' c => by
    obtain ⟨_, _, _, _, _, _, _, _, _, _, _, _, q⟩ := c
    exact q
end DL

set_option maxHeartbeats 4000000
/-! PL, part a: plain evaluation of the printed meanings, step by step (printed by mkpl.py) -/
namespace DL
open PySem PySem.Spec PyProof.Rows L2
theorem els_ok {α : Type} (a : α) (M : Mem) (u : Res α) : (Res.ok a M).els u = .ok a M := rfl
def varK (o : Option Sl) (M : Mem) : Res D := match o with | some (.val d) => .ok d M | _ => .bad
theorem mVar_go {i : Nat} {ρ : Rho} {M : Mem} : mVar i ρ M = varK (ρ[i]?) M := rfl
theorem varK_ok {d : D} {M : Mem} : varK (some (.val d)) M = .ok d M := rfl
theorem mC_go {d : D} {ρ : Rho} {M : Mem} : mC d ρ M = .ok d M := rfl
def opK2 (f : D → D → Mem → Res D) (x : D) (r : Res D) : Res D := r.bind fun y M2 => f x y M2
theorem opK2_ok {f : D → D → Mem → Res D} {x : D} {y : D} {M : Mem} : opK2 f x (.ok y M) = f x y M := rfl
theorem opK2_exc {f : D → D → Mem → Res D} {x : D} {c : Str} {ns : List Str} {ds : List D} {M : Mem} : opK2 f x (.exc c ns ds M) = .exc c ns ds M := rfl
def opK (f : D → D → Mem → Res D) (mb : SE) (ρ : Rho) (r : Res D) : Res D := r.bind fun x M1 => opK2 f x (mb ρ M1)
theorem opK_ok {f : D → D → Mem → Res D} {mb : SE} {ρ : Rho} {x : D} {M : Mem} : opK f mb ρ (.ok x M) = opK2 f x (mb ρ M) := rfl
theorem opK_exc {f : D → D → Mem → Res D} {mb : SE} {ρ : Rho} {c : Str} {ns : List Str} {ds : List D} {M : Mem} : opK f mb ρ (.exc c ns ds M) = .exc c ns ds M := rfl
theorem mOp_go {f : D → D → Mem → Res D} {ma mb : SE} {ρ : Rho} {M : Mem} : mOp f ma mb ρ M = opK f mb ρ (ma ρ M) := rfl
theorem mNil_go  {ρ : Rho} {M : Mem} : mNil ρ M = .ok [] M := rfl
def consK2 (d : D) (r : Res (List D)) : Res (List D) := r.bind fun ds M2 => .ok (d :: ds) M2
theorem consK2_ok {d : D} {ds : List D} {M : Mem} : consK2 d (.ok ds M) = .ok (d :: ds) M := rfl
theorem consK2_exc {d : D} {c : Str} {ns : List Str} {ds : List D} {M : Mem} : consK2 d (.exc c ns ds M) = .exc c ns ds M := rfl
def consK (r2 : SA) (ρ : Rho) (r : Res D) : Res (List D) := r.bind fun d M1 => consK2 d (r2 ρ M1)
theorem consK_ok {r2 : SA} {ρ : Rho} {d : D} {M : Mem} : consK r2 ρ (.ok d M) = consK2 d (r2 ρ M) := rfl
theorem consK_exc {r2 : SA} {ρ : Rho} {c : Str} {ns : List Str} {ds : List D} {M : Mem} : consK r2 ρ (.exc c ns ds M) = .exc c ns ds M := rfl
theorem mCons_go {m : SE} {r : SA} {ρ : Rho} {M : Mem} : mCons m r ρ M = consK r ρ (m ρ M) := rfl
def tupK  (r : Res (List D)) : Res D := r.bind fun ds M1 => if ds.length ≤ sizeLine then .ok (.tup ds) M1 else .bad
theorem tupK_ok  {ds : List D} {M : Mem} : tupK  (.ok ds M) = if ds.length ≤ sizeLine then .ok (.tup ds) M else .bad := rfl
theorem tupK_exc  {c : Str} {ns : List Str} {ds : List D} {M : Mem} : tupK  (.exc c ns ds M) = .exc c ns ds M := rfl
theorem mTup_go {m : SA} {ρ : Rho} {M : Mem} : mTup m ρ M = tupK (m ρ M) := rfl
def lstK  (r : Res (List D)) : Res D := r.bind fun ds M1 => if ds.length ≤ sizeLine then .ok (.lst ds) M1 else .bad
theorem lstK_ok  {ds : List D} {M : Mem} : lstK  (.ok ds M) = if ds.length ≤ sizeLine then .ok (.lst ds) M else .bad := rfl
theorem lstK_exc  {c : Str} {ns : List Str} {ds : List D} {M : Mem} : lstK  (.exc c ns ds M) = .exc c ns ds M := rfl
theorem mLst_go {m : SA} {ρ : Rho} {M : Mem} : mLst m ρ M = lstK (m ρ M) := rfl
def ownK  (r : Res D) : Res D := r.bind fun d M1 => match moOf d with | some o => .ok (.obj M1.length) (M1 ++ [o]) | none => .bad
theorem ownK_ok  {ds : List D} {M : Mem} : ownK  (.ok (.lst ds) M) = .ok (.obj M.length) (M ++ [.lst ds]) := rfl
theorem ownK_ok1  {ks : List Key} {vs : List D} {M : Mem} : ownK  (.ok (.dct ks vs) M) = .ok (.obj M.length) (M ++ [.dct ks vs]) := rfl
theorem ownK_ok2  {c : Str} {ns : List Str} {vs : List D} {M : Mem} : ownK  (.ok (.ins c ns vs) M) = .ok (.obj M.length) (M ++ [.ins c ns vs]) := rfl
theorem ownK_exc  {c : Str} {ns : List Str} {ds : List D} {M : Mem} : ownK  (.exc c ns ds M) = .exc c ns ds M := rfl
theorem mOwn_go {m : SE} {ρ : Rho} {M : Mem} : mOwn m ρ M = ownK (m ρ M) := rfl
def tsK  (r : Res D) : Res Bool := r.bind fun d M1 => match d with | .bl b => .ok b M1 | _ => .bad
theorem tsK_ok  {b : Bool} {M : Mem} : tsK  (.ok (.bl b) M) = .ok b M := rfl
theorem tsK_exc  {c : Str} {ns : List Str} {ds : List D} {M : Mem} : tsK  (.exc c ns ds M) = .exc c ns ds M := rfl
theorem mTest_go {m : SE} {ρ : Rho} {M : Mem} : mTest m ρ M = tsK (m ρ M) := rfl
def andK (n : ST) (ρ : Rho) (r : Res Bool) : Res Bool := r.bind fun b M1 => if b = true then n ρ M1 else .ok false M1
theorem andK_ok {n : ST} {ρ : Rho}  {M : Mem} : andK n ρ (.ok true M) = n ρ M := rfl
theorem andK_ok1 {n : ST} {ρ : Rho}  {M : Mem} : andK n ρ (.ok false M) = .ok false M := rfl
theorem andK_exc {n : ST} {ρ : Rho} {c : Str} {ns : List Str} {ds : List D} {M : Mem} : andK n ρ (.exc c ns ds M) = .exc c ns ds M := rfl
theorem mAnd_go {m n : ST} {ρ : Rho} {M : Mem} : mAnd m n ρ M = andK n ρ (m ρ M) := rfl
def orK (n : ST) (ρ : Rho) (r : Res Bool) : Res Bool := r.bind fun b M1 => if b = true then .ok true M1 else n ρ M1
theorem orK_ok {n : ST} {ρ : Rho}  {M : Mem} : orK n ρ (.ok true M) = .ok true M := rfl
theorem orK_ok1 {n : ST} {ρ : Rho}  {M : Mem} : orK n ρ (.ok false M) = n ρ M := rfl
theorem orK_exc {n : ST} {ρ : Rho} {c : Str} {ns : List Str} {ds : List D} {M : Mem} : orK n ρ (.exc c ns ds M) = .exc c ns ds M := rfl
theorem mOr_go {m n : ST} {ρ : Rho} {M : Mem} : mOr m n ρ M = orK n ρ (m ρ M) := rfl
def notK  (r : Res Bool) : Res Bool := r.bind fun b M1 => .ok (!b) M1
theorem notK_ok  {b : Bool} {M : Mem} : notK  (.ok b M) = .ok (!b) M := rfl
theorem notK_exc  {c : Str} {ns : List Str} {ds : List D} {M : Mem} : notK  (.exc c ns ds M) = .exc c ns ds M := rfl
theorem mNot_go {m : ST} {ρ : Rho} {M : Mem} : mNot m ρ M = notK (m ρ M) := rfl
def mbK  (r : Res Bool) : Res D := r.bind fun b M1 => .ok (.bl b) M1
theorem mbK_ok  {b : Bool} {M : Mem} : mbK  (.ok b M) = .ok (.bl b) M := rfl
theorem mbK_exc  {c : Str} {ns : List Str} {ds : List D} {M : Mem} : mbK  (.exc c ns ds M) = .exc c ns ds M := rfl
theorem mB_go {m : ST} {ρ : Rho} {M : Mem} : mB m ρ M = mbK (m ρ M) := rfl
def ifeK (a b : SE) (ρ : Rho) (r : Res Bool) : Res D := r.bind fun c M1 => if c = true then a ρ M1 else b ρ M1
theorem ifeK_ok {a b : SE} {ρ : Rho}  {M : Mem} : ifeK a b ρ (.ok true M) = a ρ M := rfl
theorem ifeK_ok1 {a b : SE} {ρ : Rho}  {M : Mem} : ifeK a b ρ (.ok false M) = b ρ M := rfl
theorem ifeK_exc {a b : SE} {ρ : Rho} {c : Str} {ns : List Str} {ds : List D} {M : Mem} : ifeK a b ρ (.exc c ns ds M) = .exc c ns ds M := rfl
theorem mIfE_go {t : ST} {a b : SE} {ρ : Rho} {M : Mem} : mIfE t a b ρ M = ifeK a b ρ (t ρ M) := rfl
theorem mYes_go  {ρ : Rho} {M : Mem} : mYes ρ M = .ok true M := rfl
theorem mNext_go  {ρ : Rho} {M : Mem} : mNext ρ M = .ok (.nx ρ) M := rfl
def seqK (n : SS) (r : Res Fl) : Res Fl := r.bind fun fl M1 => match fl with
  | .nx ρ1 => n ρ1 M1
  | .rt d => .ok (.rt d) M1
  | .bk ρ1 => .ok (.bk ρ1) M1
  | .ct ρ1 => .ok (.ct ρ1) M1
  | .ex ρ1 c ns ds => .ok (.ex ρ1 c ns ds) M1
theorem seqK_nx {n : SS} {ρ : Rho} {M : Mem} : seqK n (.ok (.nx ρ) M) = n ρ M := rfl
theorem seqK_rt {n : SS} {d : D} {M : Mem} : seqK n (.ok (.rt d) M) = .ok (.rt d) M := rfl
theorem seqK_bk {n : SS} {ρ : Rho} {M : Mem} : seqK n (.ok (.bk ρ) M) = .ok (.bk ρ) M := rfl
theorem seqK_ct {n : SS} {ρ : Rho} {M : Mem} : seqK n (.ok (.ct ρ) M) = .ok (.ct ρ) M := rfl
theorem seqK_ex {n : SS} {ρ : Rho} {c : Str} {ns : List Str} {ds : List D} {M : Mem} : seqK n (.ok (.ex ρ c ns ds) M) = .ok (.ex ρ c ns ds) M := rfl
theorem mSeq_go {m n : SS} {ρ : Rho} {M : Mem} : mSeq m n ρ M = seqK n (m ρ M) := rfl
def ifK (m n : SS) (ρ : Rho) (r : Res Bool) : Res Fl := liftE r ρ fun b M1 => if b = true then m ρ M1 else n ρ M1
theorem ifK_ok {m n : SS}  {ρ : Rho} {M : Mem} : ifK m n ρ (.ok true M) = m ρ M := rfl
theorem ifK_ok1 {m n : SS}  {ρ : Rho} {M : Mem} : ifK m n ρ (.ok false M) = n ρ M := rfl
theorem ifK_exc {m n : SS} {ρ : Rho} {c : Str} {ns : List Str} {ds : List D} {M : Mem} : ifK m n ρ (.exc c ns ds M) = .ok (.ex ρ c ns ds) M := rfl
theorem mIfS_go {t : ST} {m n : SS} {ρ : Rho} {M : Mem} : mIfS t m n ρ M = ifK m n ρ (t ρ M) := rfl
def retK  (ρ : Rho) (r : Res D) : Res Fl := liftE r ρ fun d M1 => .ok (.rt d) M1
theorem retK_ok  {d : D} {ρ : Rho} {M : Mem} : retK  ρ (.ok d M) = .ok (.rt d) M := rfl
theorem retK_exc  {ρ : Rho} {c : Str} {ns : List Str} {ds : List D} {M : Mem} : retK  ρ (.exc c ns ds M) = .ok (.ex ρ c ns ds) M := rfl
theorem mRet_go {m : SE} {ρ : Rho} {M : Mem} : mRet m ρ M = retK ρ (m ρ M) := rfl
theorem mRetN_go  {ρ : Rho} {M : Mem} : mRetN ρ M = .ok (.rt .non) M := rfl
def dropK  (ρ : Rho) (r : Res D) : Res Fl := liftE r ρ fun _ M1 => .ok (.nx ρ) M1
theorem dropK_ok  {d : D} {ρ : Rho} {M : Mem} : dropK  ρ (.ok d M) = .ok (.nx ρ) M := rfl
theorem dropK_exc  {ρ : Rho} {c : Str} {ns : List Str} {ds : List D} {M : Mem} : dropK  ρ (.exc c ns ds M) = .ok (.ex ρ c ns ds) M := rfl
theorem mDrop_go {m : SE} {ρ : Rho} {M : Mem} : mDrop m ρ M = dropK ρ (m ρ M) := rfl
theorem mBreak_go  {ρ : Rho} {M : Mem} : mBreak ρ M = .ok (.bk ρ) M := rfl
theorem mCont_go  {ρ : Rho} {M : Mem} : mCont ρ M = .ok (.ct ρ) M := rfl
def putK (o : Option Rho) (M : Mem) : Res Fl := match o with | some ρ1 => .ok (.nx ρ1) M | none => .bad
theorem putK_some {ρ : Rho} {M : Mem} : putK (some ρ) M = .ok (.nx ρ) M := rfl
def asgK (g : SG) (ρ : Rho) (r : Res D) : Res Fl := liftE r ρ fun d M1 => putK (g d ρ) M1
theorem asgK_ok {g : SG} {d : D} {ρ : Rho} {M : Mem} : asgK g ρ (.ok d M) = putK (g d ρ) M := rfl
theorem asgK_exc {g : SG} {ρ : Rho} {c : Str} {ns : List Str} {ds : List D} {M : Mem} : asgK g ρ (.exc c ns ds M) = .ok (.ex ρ c ns ds) M := rfl
theorem mAsg_go {m : SE} {g : SG} {ρ : Rho} {M : Mem} : mAsg m g ρ M = asgK g ρ (m ρ M) := rfl
theorem mgName_go {i : Nat} {d : D} {ρ : Rho} : mgName i d ρ = some (ρ.set i (.val d)) := rfl
theorem mgNil_go {ρ : Rho} : mgNil [] ρ = some ρ := rfl
def gsK (r : SGs) (ds : List D) (o : Option Rho) : Option Rho := o.bind fun ρ1 => r ds ρ1
theorem gsK_some {r : SGs} {ds : List D} {ρ : Rho} : gsK r ds (some ρ) = r ds ρ := rfl
theorem mgCons_go {m : SG} {r : SGs} {d : D} {ds : List D} {ρ : Rho} : mgCons m r (d :: ds) ρ = gsK r ds (m d ρ) := rfl
theorem mgTup_go {n : Nat} {m : SGs} {ds : List D} {ρ : Rho} (h : ds.length = n) : mgTup n m (.tup ds) ρ = m ds ρ := by
  unfold mgTup
  simp only [h, if_pos]
def parK (i j : Nat) (ρ : Rho) (r : Res (List D)) : Res Fl := liftE r ρ fun ds M1 => match ds with | [d, e] => .ok (.nx ((ρ.set i (.val d)).set j (.val e))) M1 | _ => .bad
theorem parK_ok {i j : Nat} {d e : D} {ρ : Rho} {M : Mem} : parK i j ρ (.ok [d, e] M) = .ok (.nx ((ρ.set i (.val d)).set j (.val e))) M := rfl
theorem parK_exc {i j : Nat} {ρ : Rho} {c : Str} {ns : List Str} {ds : List D} {M : Mem} : parK i j ρ (.exc c ns ds M) = .ok (.ex ρ c ns ds) M := rfl
theorem mPar_go {i j : Nat} {m : SA} {ρ : Rho} {M : Mem} : mPar i j m ρ M = parK i j ρ (m ρ M) := rfl
def setK3 (d x : D) (ρ : Rho) (r : Res D) : Res Fl := liftE r ρ fun y M3 => match x, y with
  | .obj j, .int i => match M3[j]? with
    | some (.lst ds) => match ixN ds.length i with
      | some n => .ok (.nx ρ) (M3.set j (.lst (ds.set n d)))
      | none => .bad
    | _ => .bad
  | _, _ => .bad
theorem setK3_exc {d x : D} {ρ : Rho} {c : Str} {ns : List Str} {ds : List D} {M : Mem} : setK3 d x ρ (.exc c ns ds M) = .ok (.ex ρ c ns ds) M := rfl
def set5 (d : D) (j : Nat) (ds : List D) (ρ : Rho) (M : Mem) (o : Option Nat) : Res Fl := match o with | some n => .ok (.nx ρ) (M.set j (.lst (ds.set n d))) | none => .bad
def set4 (d : D) (j : Nat) (i : Int) (ρ : Rho) (M : Mem) (o : Option MO) : Res Fl := match o with | some (.lst ds) => set5 d j ds ρ M (ixN ds.length i) | _ => .bad
theorem set5_ok {d : D} {j : Nat} {ds : List D} {ρ : Rho} {M : Mem} {n : Nat} : set5 d j ds ρ M (some n) = .ok (.nx ρ) (M.set j (.lst (ds.set n d))) := rfl
theorem set4_ok {d : D} {j : Nat} {i : Int} {ds : List D} {ρ : Rho} {M : Mem} : set4 d j i ρ M (some (.lst ds)) = set5 d j ds ρ M (ixN ds.length i) := rfl
theorem setK3_ok {d : D} {j : Nat} {i : Int} {ρ : Rho} {M : Mem} : setK3 d (.obj j) ρ (.ok (.int i) M) = set4 d j i ρ M (M[j]?) := rfl
def setK2 (d : D) (mi : SE) (ρ : Rho) (r : Res D) : Res Fl := liftE r ρ fun x M2 => setK3 d x ρ (mi ρ M2)
theorem setK2_ok {d : D} {mi : SE} {x : D} {ρ : Rho} {M : Mem} : setK2 d mi ρ (.ok x M) = setK3 d x ρ (mi ρ M) := rfl
theorem setK2_exc {d : D} {mi : SE} {ρ : Rho} {c : Str} {ns : List Str} {ds : List D} {M : Mem} : setK2 d mi ρ (.exc c ns ds M) = .ok (.ex ρ c ns ds) M := rfl
def setK (mo mi : SE) (ρ : Rho) (r : Res D) : Res Fl := liftE r ρ fun d M1 => setK2 d mi ρ (mo ρ M1)
theorem setK_ok {mo mi : SE} {d : D} {ρ : Rho} {M : Mem} : setK mo mi ρ (.ok d M) = setK2 d mi ρ (mo ρ M) := rfl
theorem setK_exc {mo mi : SE} {ρ : Rho} {c : Str} {ns : List Str} {ds : List D} {M : Mem} : setK mo mi ρ (.exc c ns ds M) = .ok (.ex ρ c ns ds) M := rfl
theorem mSetIx_go {me mo mi : SE} {ρ : Rho} {M : Mem} : mSetIx me mo mi ρ M = setK mo mi ρ (me ρ M) := rfl
def popK (k : Int) (r : Res D) : Res D := r.bind fun x M1 => fPopAt x k M1
theorem popK_ok {k : Int} {x : D} {M : Mem} : popK k (.ok x M) = fPopAt x k M := rfl
theorem popK_exc {k : Int} {c : Str} {ns : List Str} {ds : List D} {M : Mem} : popK k (.exc c ns ds M) = .exc c ns ds M := rfl
theorem mPopAt_go {mo : SE} {k : Int} {ρ : Rho} {M : Mem} : mPopAt mo k ρ M = popK k (mo ρ M) := rfl
theorem forGo_nil {mg : SG} {mb : SS} {ρ : Rho} {M : Mem} : forGo mg mb [] ρ M = .ok (.nx ρ) M := rfl
def forK3 (mg : SG) (mb : SS) (r : List D) (q : Res Fl) : Res Fl := q.bind fun fl M1 => match fl with
  | .nx ρ2 => forGo mg mb r ρ2 M1
  | .ct ρ2 => forGo mg mb r ρ2 M1
  | .bk ρ2 => .ok (.nx ρ2) M1
  | .rt d => .ok (.rt d) M1
  | .ex ρ2 c ns ds => .ok (.ex ρ2 c ns ds) M1
def forK2 (mg : SG) (mb : SS) (r : List D) (o : Option Rho) (M : Mem) : Res Fl := match o with
  | none => .bad
  | some ρ1 => forK3 mg mb r (mb ρ1 M)
theorem forK2_some {mg : SG} {mb : SS} {r : List D} {ρ : Rho} {M : Mem} : forK2 mg mb r (some ρ) M = forK3 mg mb r (mb ρ M) := rfl
theorem forK3_nx {mg : SG} {mb : SS} {r : List D} {ρ : Rho} {M : Mem} : forK3 mg mb r (.ok (.nx ρ) M) = forGo mg mb r ρ M := rfl
theorem forK3_ct {mg : SG} {mb : SS} {r : List D} {ρ : Rho} {M : Mem} : forK3 mg mb r (.ok (.ct ρ) M) = forGo mg mb r ρ M := rfl
theorem forK3_bk {mg : SG} {mb : SS} {r : List D} {ρ : Rho} {M : Mem} : forK3 mg mb r (.ok (.bk ρ) M) = .ok (.nx ρ) M := rfl
theorem forK3_rt {mg : SG} {mb : SS} {r : List D} {d : D} {M : Mem} : forK3 mg mb r (.ok (.rt d) M) = .ok (.rt d) M := rfl
theorem forK3_ex {mg : SG} {mb : SS} {r : List D} {ρ : Rho} {c : Str} {ns : List Str} {ds : List D} {M : Mem} : forK3 mg mb r (.ok (.ex ρ c ns ds) M) = .ok (.ex ρ c ns ds) M := rfl
theorem forGo_cons {mg : SG} {mb : SS} {d : D} {r : List D} {ρ : Rho} {M : Mem} : forGo mg mb (d :: r) ρ M = forK2 mg mb r (mg d ρ) M := rfl
def forK (mg : SG) (mb : SS) (ρ : Rho) (r : Res (List D)) : Res Fl := liftE r ρ fun ds M1 => forGo mg mb ds ρ M1
theorem forK_ok {mg : SG} {mb : SS} {ds : List D} {ρ : Rho} {M : Mem} : forK mg mb ρ (.ok ds M) = forGo mg mb ds ρ M := rfl
theorem forK_exc {mg : SG} {mb : SS} {ρ : Rho} {c : Str} {ns : List Str} {ds : List D} {M : Mem} : forK mg mb ρ (.exc c ns ds M) = .ok (.ex ρ c ns ds) M := rfl
theorem mFor_go {mi : SI} {mg : SG} {mb : SS} {ρ : Rho} {M : Mem} : mFor mi mg mb ρ M = forK mg mb ρ (mi ρ M) := rfl
def lcE  (r : Res (List D)) : Res D := r.bind fun ys M2 => .ok (.lst ys) M2
theorem lcE_ok  {ys : List D} {M : Mem} : lcE  (.ok ys M) = .ok (.lst ys) M := rfl
theorem lcE_exc  {c : Str} {ns : List Str} {ds : List D} {M : Mem} : lcE  (.exc c ns ds M) = .exc c ns ds M := rfl
def lcK (mg : SG) (tt : ST) (te : SE) (vs : List Nat) (ρ : Rho) (r : Res (List D)) : Res D := r.bind fun ds M1 => if ds.length ≤ sizeLine then lcE (lcGo (wipeR ρ vs) mg tt te ds M1) else .bad
theorem lcK_ok {mg : SG} {tt : ST} {te : SE} {vs : List Nat} {ρ : Rho} {ds : List D} {M : Mem} : lcK mg tt te vs ρ (.ok ds M) = if ds.length ≤ sizeLine then lcE (lcGo (wipeR ρ vs) mg tt te ds M) else .bad := rfl
theorem lcK_exc {mg : SG} {tt : ST} {te : SE} {vs : List Nat} {ρ : Rho} {c : Str} {ns : List Str} {ds : List D} {M : Mem} : lcK mg tt te vs ρ (.exc c ns ds M) = .exc c ns ds M := rfl
theorem mLc_go {mi : SI} {mg : SG} {tt : ST} {te : SE} {vs : List Nat} {ρ : Rho} {M : Mem} : mLc mi mg tt te vs ρ M = lcK mg tt te vs ρ (mi ρ M) := rfl
theorem wipe_nil {ρ : Rho} : wipeR ρ [] = ρ := rfl
theorem wipe_cons {ρ : Rho} {v : Nat} {vs : List Nat} : wipeR ρ (v :: vs) = (wipeR ρ vs).set v .no := rfl
theorem lcGo_nil {ρ : Rho} {mg : SG} {tt : ST} {te : SE} {M : Mem} : lcGo ρ mg tt te [] M = .ok [] M := rfl
def lcK4 (ρ : Rho) (mg : SG) (tt : ST) (te : SE) (r : List D) (q : Res D) : Res (List D) := q.noX.bind fun y M2 => consK2 y (lcGo ρ mg tt te r M2)
theorem lcK4_ok {ρ : Rho} {mg : SG} {tt : ST} {te : SE} {r : List D} {y : D} {M : Mem} : lcK4 ρ mg tt te r (.ok y M) = consK2 y (lcGo ρ mg tt te r M) := rfl
def lcK3 (ρ : Rho) (mg : SG) (tt : ST) (te : SE) (r : List D) (ρ1 : Rho) (q : Res Bool) : Res (List D) := q.noX.bind fun b M1 => if b = true then lcK4 ρ mg tt te r (te ρ1 M1) else lcGo ρ mg tt te r M1
theorem lcK3_t {ρ : Rho} {mg : SG} {tt : ST} {te : SE} {r : List D} {ρ1 : Rho} {M : Mem} : lcK3 ρ mg tt te r ρ1 (.ok true M) = lcK4 ρ mg tt te r (te ρ1 M) := rfl
theorem lcK3_f {ρ : Rho} {mg : SG} {tt : ST} {te : SE} {r : List D} {ρ1 : Rho} {M : Mem} : lcK3 ρ mg tt te r ρ1 (.ok false M) = lcGo ρ mg tt te r M := rfl
def lcK2 (ρ : Rho) (mg : SG) (tt : ST) (te : SE) (r : List D) (M : Mem) (o : Option Rho) : Res (List D) := match o with
  | none => .bad
  | some ρ1 => lcK3 ρ mg tt te r ρ1 (tt ρ1 M)
theorem lcK2_some {ρ : Rho} {mg : SG} {tt : ST} {te : SE} {r : List D} {ρ1 : Rho} {M : Mem} : lcK2 ρ mg tt te r M (some ρ1) = lcK3 ρ mg tt te r ρ1 (tt ρ1 M) := rfl
theorem lcGo_cons {ρ : Rho} {mg : SG} {tt : ST} {te : SE} {d : D} {r : List D} {M : Mem} : lcGo ρ mg tt te (d :: r) M = lcK2 ρ mg tt te r M (mg d ρ) := rfl
def rng1K  (r : Res (List D)) : Res (List D) := r.bind fun ds M1 => match ds with | [.int j] => if -(2 ^ 62) ≤ j ∧ j < 2 ^ 62 then .ok (intsD 0 j.toNat) M1 else .bad | _ => .bad
theorem rng1K_ok  {j : Int} {M : Mem} : rng1K  (.ok [.int j] M) = if -(2 ^ 62) ≤ j ∧ j < 2 ^ 62 then .ok (intsD 0 j.toNat) M else .bad := rfl
theorem rng1K_exc  {c : Str} {ns : List Str} {ds : List D} {M : Mem} : rng1K  (.exc c ns ds M) = .exc c ns ds M := rfl
theorem mRng1_go {m : SA} {ρ : Rho} {M : Mem} : mRng1 m ρ M = rng1K (m ρ M) := rfl
def itK  (r : Res D) : Res (List D) := r.bind fun d M1 => itemsOf d M1
theorem itK_ok  {ds : List D} {M : Mem} : itK  (.ok (.lst ds) M) = .ok ds M := rfl
theorem itK_ok1  {ds : List D} {M : Mem} : itK  (.ok (.tup ds) M) = .ok ds M := rfl
theorem itK_ok2  {x : Str} {M : Mem} : itK  (.ok (.str x) M) = .ok (signsD x) M := rfl
theorem itK_exc  {c : Str} {ns : List Str} {ds : List D} {M : Mem} : itK  (.exc c ns ds M) = .exc c ns ds M := rfl
theorem mIAny_go {m : SE} {ρ : Rho} {M : Mem} : mIAny m ρ M = itK (m ρ M) := rfl
def zipK  (r : Res (List D)) : Res (List D) := r.bind fun ds M1 => match ds with | [.lst xs, .lst ys] => .ok ((xs.zip ys).map fun p => D.tup [p.1, p.2]) M1 | _ => .bad
theorem zipK_ok  {xs ys : List D} {M : Mem} : zipK  (.ok [.lst xs, .lst ys] M) = .ok ((xs.zip ys).map fun p => D.tup [p.1, p.2]) M := rfl
theorem zipK_exc  {c : Str} {ns : List Str} {ds : List D} {M : Mem} : zipK  (.exc c ns ds M) = .exc c ns ds M := rfl
theorem mZip_go {m : SA} {ρ : Rho} {M : Mem} : mZip m ρ M = zipK (m ρ M) := rfl
def callK (n : Nat) (g : GF) (dd : List D) (r : Res (List D)) : Res D := r.bind fun ds M1 => if (ds ++ dd).length = n then g (ds ++ dd) M1 else .bad
theorem callK_ok {n : Nat} {g : GF} {dd : List D} {ds : List D} {M : Mem} : callK n g dd (.ok ds M) = if (ds ++ dd).length = n then g (ds ++ dd) M else .bad := rfl
theorem callK_exc {n : Nat} {g : GF} {dd : List D} {c : Str} {ns : List Str} {ds : List D} {M : Mem} : callK n g dd (.exc c ns ds M) = .exc c ns ds M := rfl
theorem mCall_go {n : Nat} {g : GF} {dd : List D} {ma : SA} {ρ : Rho} {M : Mem} : mCall n g dd ma ρ M = callK n g dd (ma ρ M) := rfl
def kcK2 (n a b : Nat) (g : GF) (pm : List D → List D → List D) (ds : List D) (r : Res (List D)) : Res D := r.bind fun es M2 => if ds.length = a ∧ es.length = b ∧ (pm ds es).length = n then g (pm ds es) M2 else .bad
theorem kcK2_ok {n a b : Nat} {g : GF} {pm : List D → List D → List D} {ds : List D} {es : List D} {M : Mem} : kcK2 n a b g pm ds (.ok es M) = if ds.length = a ∧ es.length = b ∧ (pm ds es).length = n then g (pm ds es) M else .bad := rfl
theorem kcK2_exc {n a b : Nat} {g : GF} {pm : List D → List D → List D} {ds : List D} {c : Str} {ns : List Str} {ds : List D} {M : Mem} : kcK2 n a b g pm ds (.exc c ns ds M) = .exc c ns ds M := rfl
def kcK (n a b : Nat) (g : GF) (pm : List D → List D → List D) (mk : SA) (ρ : Rho) (r : Res (List D)) : Res D := r.bind fun ds M1 => kcK2 n a b g pm ds (mk ρ M1)
theorem kcK_ok {n a b : Nat} {g : GF} {pm : List D → List D → List D} {mk : SA} {ρ : Rho} {ds : List D} {M : Mem} : kcK n a b g pm mk ρ (.ok ds M) = kcK2 n a b g pm ds (mk ρ M) := rfl
theorem kcK_exc {n a b : Nat} {g : GF} {pm : List D → List D → List D} {mk : SA} {ρ : Rho} {c : Str} {ns : List Str} {ds : List D} {M : Mem} : kcK n a b g pm mk ρ (.exc c ns ds M) = .exc c ns ds M := rfl
theorem mCallK_go {n a b : Nat} {g : GF} {pm : List D → List D → List D} {ma mk : SA} {ρ : Rho} {M : Mem} : mCallK n a b g pm ma mk ρ M = kcK n a b g pm mk ρ (ma ρ M) := rfl
def cbK (f : List D → Mem → Res D) (r : Res (List D)) : Res D := r.bind fun ds M1 => f ds M1
theorem cbK_ok {f : List D → Mem → Res D} {ds : List D} {M : Mem} : cbK f (.ok ds M) = f ds M := rfl
theorem cbK_exc {f : List D → Mem → Res D} {c : Str} {ns : List Str} {ds : List D} {M : Mem} : cbK f (.exc c ns ds M) = .exc c ns ds M := rfl
theorem mCB_go {f : List D → Mem → Res D} {ma : SA} {ρ : Rho} {M : Mem} : mCB f ma ρ M = cbK f (ma ρ M) := rfl
theorem f1_go {f : D → Mem → Res D} {d : D} {M : Mem} : f1 f [d] M = f d M := rfl
def chK4 (f2 : D → D → Mem → Res D) (y : D) (r : Res D) : Res D := r.bind fun w M4 => f2 y w M4
theorem chK4_ok {f2 : D → D → Mem → Res D} {y : D} {w : D} {M : Mem} : chK4 f2 y (.ok w M) = f2 y w M := rfl
theorem chK4_exc {f2 : D → D → Mem → Res D} {y : D} {c : Str} {ns : List Str} {ds : List D} {M : Mem} : chK4 f2 y (.exc c ns ds M) = .exc c ns ds M := rfl
def chK3 (f2 : D → D → Mem → Res D) (mc : SE) (ρ : Rho) (y : D) (r : Res D) : Res D := r.bind fun z M3 => match z with | .bl true => chK4 f2 y (mc ρ M3) | .bl false => .ok (.bl false) M3 | _ => .bad
theorem chK3_ok {f2 : D → D → Mem → Res D} {mc : SE} {ρ : Rho} {y : D}  {M : Mem} : chK3 f2 mc ρ y (.ok (.bl true) M) = chK4 f2 y (mc ρ M) := rfl
theorem chK3_ok1 {f2 : D → D → Mem → Res D} {mc : SE} {ρ : Rho} {y : D}  {M : Mem} : chK3 f2 mc ρ y (.ok (.bl false) M) = .ok (.bl false) M := rfl
theorem chK3_exc {f2 : D → D → Mem → Res D} {mc : SE} {ρ : Rho} {y : D} {c : Str} {ns : List Str} {ds : List D} {M : Mem} : chK3 f2 mc ρ y (.exc c ns ds M) = .exc c ns ds M := rfl
def chK2 (f f2 : D → D → Mem → Res D) (mc : SE) (ρ : Rho) (x : D) (r : Res D) : Res D := r.bind fun y M2 => chK3 f2 mc ρ y (f x y M2)
theorem chK2_ok {f f2 : D → D → Mem → Res D} {mc : SE} {ρ : Rho} {x : D} {y : D} {M : Mem} : chK2 f f2 mc ρ x (.ok y M) = chK3 f2 mc ρ y (f x y M) := rfl
theorem chK2_exc {f f2 : D → D → Mem → Res D} {mc : SE} {ρ : Rho} {x : D} {c : Str} {ns : List Str} {ds : List D} {M : Mem} : chK2 f f2 mc ρ x (.exc c ns ds M) = .exc c ns ds M := rfl
def chK (f f2 : D → D → Mem → Res D) (mb mc : SE) (ρ : Rho) (r : Res D) : Res D := r.bind fun x M1 => chK2 f f2 mc ρ x (mb ρ M1)
theorem chK_ok {f f2 : D → D → Mem → Res D} {mb mc : SE} {ρ : Rho} {x : D} {M : Mem} : chK f f2 mb mc ρ (.ok x M) = chK2 f f2 mc ρ x (mb ρ M) := rfl
theorem chK_exc {f f2 : D → D → Mem → Res D} {mb mc : SE} {ρ : Rho} {c : Str} {ns : List Str} {ds : List D} {M : Mem} : chK f f2 mb mc ρ (.exc c ns ds M) = .exc c ns ds M := rfl
theorem mChain_go {f f2 : D → D → Mem → Res D} {ma mb mc : SE} {ρ : Rho} {M : Mem} : mChain f f2 ma mb mc ρ M = chK f f2 mb mc ρ (ma ρ M) := rfl
theorem mNoPart_go  {ρ : Rho} {M : Mem} : mNoPart ρ M = .ok none M := rfl
def partK  (r : Res D) : Res (Option Int) := r.bind fun d M1 => match d with | .int i => .ok (some i) M1 | _ => .bad
theorem partK_ok  {i : Int} {M : Mem} : partK  (.ok (.int i) M) = .ok (some i) M := rfl
theorem partK_exc  {c : Str} {ns : List Str} {ds : List D} {M : Mem} : partK  (.exc c ns ds M) = .exc c ns ds M := rfl
theorem mPart_go {m : SE} {ρ : Rho} {M : Mem} : mPart m ρ M = partK (m ρ M) := rfl
def slK3 (x : D) (l : Option Int) (r : Res (Option Int)) : Res D := r.bind fun u M3 => fSl x l u M3
theorem slK3_ok {x : D} {l : Option Int} {u : Option Int} {M : Mem} : slK3 x l (.ok u M) = fSl x l u M := rfl
theorem slK3_exc {x : D} {l : Option Int} {c : Str} {ns : List Str} {ds : List D} {M : Mem} : slK3 x l (.exc c ns ds M) = .exc c ns ds M := rfl
def slK2 (mh : SO) (ρ : Rho) (x : D) (r : Res (Option Int)) : Res D := r.bind fun l M2 => slK3 x l (mh ρ M2)
theorem slK2_ok {mh : SO} {ρ : Rho} {x : D} {l : Option Int} {M : Mem} : slK2 mh ρ x (.ok l M) = slK3 x l (mh ρ M) := rfl
theorem slK2_exc {mh : SO} {ρ : Rho} {x : D} {c : Str} {ns : List Str} {ds : List D} {M : Mem} : slK2 mh ρ x (.exc c ns ds M) = .exc c ns ds M := rfl
def slK (ml mh : SO) (ρ : Rho) (r : Res D) : Res D := r.bind fun x M1 => slK2 mh ρ x (ml ρ M1)
theorem slK_ok {ml mh : SO} {ρ : Rho} {x : D} {M : Mem} : slK ml mh ρ (.ok x M) = slK2 mh ρ x (ml ρ M) := rfl
theorem slK_exc {ml mh : SO} {ρ : Rho} {c : Str} {ns : List Str} {ds : List D} {M : Mem} : slK ml mh ρ (.exc c ns ds M) = .exc c ns ds M := rfl
theorem mSl_go {me : SE} {ml mh : SO} {ρ : Rho} {M : Mem} : mSl me ml mh ρ M = slK ml mh ρ (me ρ M) := rfl
theorem fSl_str {z : Str} {lo hi : Option Int} {M : Mem} : fSl (.str z) lo hi M = if z.length ≤ sizeLine then .ok (.str (cutS z lo hi)) M else .bad := rfl
theorem fSl_lst {ds : List D} {lo hi : Option Int} {M : Mem} : fSl (.lst ds) lo hi M = .ok (.lst (cutL ds lo hi)) M := rfl
theorem fSl_tup {ds : List D} {lo hi : Option Int} {M : Mem} : fSl (.tup ds) lo hi M = .ok (.tup (cutL ds lo hi)) M := rfl
theorem fSl_scr {ns : List Int} {lo hi : Option Int} {M : Mem} : fSl (.scr ns) lo hi M = .ok (.lst ((cutL ns lo hi).map D.int)) M := rfl
def m1K2 (f : Str → D → Mem → Res D) (a : Str) (r : Res D) : Res D := r.bind fun d M2 => f a d M2
theorem m1K2_ok {f : Str → D → Mem → Res D} {a : Str} {d : D} {M : Mem} : m1K2 f a (.ok d M) = f a d M := rfl
theorem m1K2_exc {f : Str → D → Mem → Res D} {a : Str} {c : Str} {ns : List Str} {ds : List D} {M : Mem} : m1K2 f a (.exc c ns ds M) = .exc c ns ds M := rfl
def m1K (f : Str → D → Mem → Res D) (me : SE) (ρ : Rho) (r : Res D) : Res D := r.bind fun x M1 => match x with | .str a => m1K2 f a (me ρ M1) | _ => .bad
theorem m1K_ok {f : Str → D → Mem → Res D} {me : SE} {ρ : Rho} {a : Str} {M : Mem} : m1K f me ρ (.ok (.str a) M) = m1K2 f a (me ρ M) := rfl
theorem m1K_exc {f : Str → D → Mem → Res D} {me : SE} {ρ : Rho} {c : Str} {ns : List Str} {ds : List D} {M : Mem} : m1K f me ρ (.exc c ns ds M) = .exc c ns ds M := rfl
theorem mM1_go {f : Str → D → Mem → Res D} {mo me : SE} {ρ : Rho} {M : Mem} : mM1 f mo me ρ M = m1K f me ρ (mo ρ M) := by
  unfold mM1 m1K
  cases mo ρ M with
  | ok d M1 => cases d <;> rfl
  | _ => rfl
theorem atI_at {α : Type} {xs : List α} {n : Nat} {a : α} (h : xs[n]? = some a) : atI xs (n : Int) = some a := by
  have l : n < xs.length := by
    have := List.getElem?_eq_some_iff.mp h
    exact this.1
  show (ixN xs.length (n : Int)).bind (fun j => xs[j]?) = some a
  have e : ixN xs.length (n : Int) = some n := by
    unfold ixN
    rw [if_pos (by omega), if_pos (by omega)]
    rfl
  rw [e]
  exact h
theorem size_eq : sizeLine = 16777216 := rfl
theorem fLt_int {i j : Int} {M : Mem} : fLt (.int i) (.int j) M = .ok (.bl (decide (i < j))) M := rfl
theorem fLe_int {i j : Int} {M : Mem} : fLe (.int i) (.int j) M = .ok (.bl (decide (i ≤ j))) M := rfl
theorem fGt_int {i j : Int} {M : Mem} : fGt (.int i) (.int j) M = .ok (.bl (decide (j < i))) M := rfl
theorem fGe_int {i j : Int} {M : Mem} : fGe (.int i) (.int j) M = .ok (.bl (decide (j ≤ i))) M := rfl
theorem fSub_int {i j : Int} {M : Mem} : fSub (.int i) (.int j) M = .ok (.int (i - j)) M := rfl
theorem fAdd_int {i j : Int} {M : Mem} : fAdd (.int i) (.int j) M = .ok (.int (i + j)) M := rfl
theorem ite_els {α : Type} {c : Prop} [Decidable c] {a : α} {M : Mem} {u : Res α} (h : c) : (if c then Res.ok a M else .bad).els u = .ok a M := by rw [if_pos h]; rfl
theorem fAdd_str {i j : Str} {M : Mem} (h : i.length + j.length ≤ sizeLine) : fAdd (.str i) (.str j) M = .ok (.str (i ++ j)) M := by
  show (if i.length + j.length ≤ sizeLine then Res.ok (D.str (i ++ j)) M else .bad).els _ = _
  rw [if_pos h]
  rfl
theorem fAdd_lst {i j : List D} {M : Mem} (h : i.length + j.length ≤ sizeLine) : fAdd (.lst i) (.lst j) M = .ok (.lst (i ++ j)) M := by
  show (if i.length + j.length ≤ sizeLine then Res.ok (D.lst (i ++ j)) M else .bad).els _ = _
  rw [if_pos h]
  rfl
theorem fMul_int {i j : Int} {M : Mem} (h : (-(2 ^ 64) < i ∧ i < 2 ^ 64) ∨ (-(2 ^ 64) < j ∧ j < 2 ^ 64)) : fMul (.int i) (.int j) M = .ok (.int (i * j)) M := by
  have e : cMulB i j = true := decide_eq_true h
  show (if cMulB i j = true then Res.ok (D.int (i * j)) M else .bad).els _ = _
  rw [if_pos e]
  rfl
theorem fMul_lst {i : List D} {n : Int} {M : Mem} (h : 0 ≤ n ∧ n < 2 ^ 63 ∧ i.length * n.toNat ≤ sizeLine) : fMul (.lst i) (.int n) M = .ok (.lst (List.replicate n.toNat i).flatten) M := by
  show (if 0 ≤ n ∧ n < 2 ^ 63 ∧ i.length * n.toNat ≤ sizeLine then Res.ok (D.lst (List.replicate n.toNat i).flatten) M else .bad) = _
  rw [if_pos h]
theorem log2_lt {j : Int} (h : 0 < j) (h2 : j < 2 ^ 62) : j.natAbs.log2 < 9000 := by
  have h3 : j.natAbs < 2 ^ 62 := by omega
  have := Nat.log2_lt (by omega : j.natAbs ≠ 0) |>.mpr h3
  omega
theorem fFdiv_int {i j : Int} {M : Mem} (h : 0 < j) (h2 : j < 2 ^ 62) : fFdiv (.int i) (.int j) M = .ok (.int (i / j)) M := by
  show (if decide (0 < j ∧ j.natAbs.log2 < 9000) = true then Res.ok (D.int (i / j)) M else .bad) = _
  rw [if_pos (decide_eq_true ⟨h, log2_lt h h2⟩)]
theorem fMod_int {i j : Int} {M : Mem} (h : 0 < j) : fMod (.int i) (.int j) M = .ok (.int (i % j)) M := by
  show (if decide (0 < j) = true then Res.ok (D.int (i % j)) M else .bad) = _
  rw [if_pos (decide_eq_true h)]
theorem fPow_int {i j : Int} {M : Mem} (h : 0 ≤ j ∧ j ≤ 1000000 ∧ i.natAbs < 2 ^ 64) : fPow (.int i) (.int j) M = .ok (.int (i ^ j.toNat)) M := by
  show (if decide (0 ≤ j ∧ j ≤ 1000000 ∧ i.natAbs < 2 ^ 64) = true then Res.ok (D.int (i ^ j.toNat)) M else .bad) = _
  rw [if_pos (decide_eq_true h)]
theorem fEqA_int {i j : Int} {M : Mem} : fEqA (.int i) (.int j) M = .ok (.bl (decide (i = j))) M := by
  show (Res.ok (D.bl (decide (V.int i = V.int j))) M).els _ = _
  simp only [els_ok, V.int.injEq]
theorem fEqA_str {i j : Str} {M : Mem} : fEqA (.str i) (.str j) M = .ok (.bl (decide (i = j))) M := by
  show (Res.ok (D.bl (decide (V.str i = V.str j))) M).els _ = _
  simp only [els_ok, V.str.injEq]
theorem fEqA_bl {i j : Bool} {M : Mem} : fEqA (.bl i) (.bl j) M = .ok (.bl (decide (i = j))) M := by
  show (Res.ok (D.bl (decide (V.bl i = V.bl j))) M).els _ = _
  simp only [els_ok, V.bl.injEq]
theorem fNeA_int {i j : Int} {M : Mem} : fNeA (.int i) (.int j) M = .ok (.bl (!decide (i = j))) M := by
  show (Res.ok (D.bl (!decide (V.int i = V.int j))) M).els _ = _
  simp only [els_ok, V.int.injEq]
theorem fNeA_str {i j : Str} {M : Mem} : fNeA (.str i) (.str j) M = .ok (.bl (!decide (i = j))) M := by
  show (Res.ok (D.bl (!decide (V.str i = V.str j))) M).els _ = _
  simp only [els_ok, V.str.injEq]
theorem pyL_ints : ∀ ns : List Int, pyL (ns.map D.int) = some (ns.map PyData.int)
  | [] => rfl
  | n :: r => by
    show (match py (.int n), pyL (r.map D.int) with | some p, some ps => some (p :: ps) | _, _ => none) = _
    rw [pyL_ints r]
    rfl
theorem ints_lay : ∀ ns : List Int, PyData.canLayAll0 (ns.map PyData.int) = true ∧ PyData.depthAll (ns.map PyData.int) = 0
  | [] => ⟨rfl, rfl⟩
  | n :: r => by
    obtain ⟨h1, h2⟩ := ints_lay r
    refine ⟨?_, ?_⟩
    · show (PyData.canLay0 (.int n) && PyData.canLayAll0 (r.map PyData.int)) = true
      rw [h1]
      rfl
    · show max (PyData.depth (.int n)) (PyData.depthAll (r.map PyData.int)) = 0
      rw [h2]
      rfl
theorem ints_shaped (ns : List Int) : SeqAt.shaped (.list (ns.map PyData.int)) = true := by
  obtain ⟨h1, h2⟩ := ints_lay ns
  show (PyData.canLayAll0 (ns.map PyData.int) && decide (PyData.depthAll (ns.map PyData.int) + 1 ≤ 64)) = true
  rw [h1, h2]
  rfl
theorem fNeA_cells {ns : List Int} {j : Nat} {M : Mem} (h : M[j]? = some (.lst (ns.map D.int))) : fNeA (.obj j) (.lst []) M = .ok (.bl (!ns.isEmpty)) M := by
  have e1 : pyM M (.obj j) = some (.list (ns.map PyData.int)) := by
    show (match M[j]? with
      | some (.lst ds) => (pyL ds).map PyData.list
      | _ => none) = _
    rw [h]
    show (pyL (ns.map D.int)).map PyData.list = _
    rw [pyL_ints]
    rfl
  show fEqM true (.obj j) (.lst []) M = _
  unfold fEqM
  rw [e1]
  show (if (SeqAt.shaped (.list (ns.map PyData.int)) && SeqAt.shaped (.list [])) = true then Res.ok (D.bl (!PyData.eqv (.list (ns.map PyData.int)) (.list []))) M else .bad) = _
  rw [ints_shaped, if_pos (by rfl)]
  cases ns <;> rfl
theorem fIx_lst {ds : List D} {i : Int} {d : D} {M : Mem} (h : atI ds i = some d) : fIx (.lst ds) (.int i) M = .ok d M := by
  show (match atI ds i with | some d => Res.ok d M | none => .bad) = _
  rw [h]
theorem fIx_tup {ds : List D} {i : Int} {d : D} {M : Mem} (h : atI ds i = some d) : fIx (.tup ds) (.int i) M = .ok d M := by
  show (match atI ds i with | some d => Res.ok d M | none => .bad) = _
  rw [h]
theorem fIx_str {z : Str} {i : Int} {c : Nat} {M : Mem} (hz : z.length ≤ sizeLine) (h : atI z.cps.toList i = some c) : fIx (.str z) (.int i) M = .ok (.str ⟨#[c]⟩) M := by
  show (if z.length ≤ sizeLine then (match atI z.cps.toList i with | some c => Res.ok (D.str ⟨#[c]⟩) M | none => .bad) else .bad) = _
  rw [if_pos hz, h]
theorem fIx_obj {j : Nat} {ds : List D} {i : Int} {d : D} {M : Mem} (h0 : M[j]? = some (.lst ds)) (h : atI ds i = some d) : fIx (.obj j) (.int i) M = .ok d M := by
  show (match M[j]? with | some (.lst ds) => (match atI ds i with | some d => Res.ok d M | none => .bad) | _ => .bad) = _
  rw [h0]
  show (match atI ds i with | some d => Res.ok d M | none => .bad) = _
  rw [h]
theorem fLen_str {z : Str} {M : Mem} (h : z.length ≤ sizeLine) : fLen (.str z) M = .ok (.int z.length) M := by
  show (if z.length ≤ sizeLine then Res.ok (D.int z.length) M else .bad) = _
  rw [if_pos h]
def pop2 (j : Nat) (M : Mem) (o : Option MO) : Res D := match o with | some (.lst (d :: ds)) => .ok d (M.set j (.lst ds)) | _ => .bad
theorem fPop_go {j : Nat} {M : Mem} : fPopAt (.obj j) 0 M = pop2 j M (M[j]?) := by
  unfold fPopAt pop2
  cases e : M[j]? with
  | none => simp only [e]
  | some o =>
    cases o with
    | lst ds =>
      simp only [e]
      rw [if_pos (by decide)]
      cases ds with
      | nil => rfl
      | cons d ds =>
        have e2 : seqIndex? 0 (d :: ds).length = some 0 := seqIndex_of (by omega) (by simp only [List.length_cons]; omega)
        rw [e2]
        rfl
    | _ => simp only [e]
def ixL (o : Option D) (M : Mem) : Res D := match o with | some d => .ok d M | none => .bad
def ixO (o : Option MO) (i : Int) (M : Mem) : Res D := match o with | some (.lst ds) => ixL (atI ds i) M | _ => .bad
def ixS (z : Str) (o : Option Nat) (M : Mem) : Res D := if z.length ≤ sizeLine then (match o with | some c => .ok (.str ⟨#[c]⟩) M | none => .bad) else .bad
theorem pop2_ok {j : Nat} {d : D} {ds : List D} {M : Mem} : pop2 j M (some (.lst (d :: ds))) = .ok d (M.set j (.lst ds)) := rfl
theorem ixL_ok {d : D} {M : Mem} : ixL (some d) M = .ok d M := rfl
theorem ixO_ok {ds : List D} {i : Int} {M : Mem} : ixO (some (.lst ds)) i M = ixL (atI ds i) M := rfl
theorem fIx_goL {ds : List D} {i : Int} {M : Mem} : fIx (.lst ds) (.int i) M = ixL (atI ds i) M := rfl
theorem fIx_goT {ds : List D} {i : Int} {M : Mem} : fIx (.tup ds) (.int i) M = ixL (atI ds i) M := rfl
theorem fIx_goO {j : Nat} {i : Int} {M : Mem} : fIx (.obj j) (.int i) M = ixO (M[j]?) i M := by
  cases e : M[j]? with
  | none => simp only [fIx, ixO, e]
  | some o => cases o <;> simp only [fIx, ixO, e]
  <;> rfl
theorem atI_0 {α : Type} {a0 : α} {r : List α} : atI (a0 :: r) 0 = some a0 := atI_at (n := 0) rfl
theorem ixN_1_0 : ixN 1 0 = some 0 := rfl
theorem ixN_2_0 : ixN 2 0 = some 0 := rfl
theorem ixN_3_0 : ixN 3 0 = some 0 := rfl
theorem ixN_4_0 : ixN 4 0 = some 0 := rfl
theorem ixN_5_0 : ixN 5 0 = some 0 := rfl
theorem ixN_6_0 : ixN 6 0 = some 0 := rfl
theorem atI_1 {α : Type} {a0 a1 : α} {r : List α} : atI (a0 :: a1 :: r) 1 = some a1 := atI_at (n := 1) rfl
theorem ixN_2_1 : ixN 2 1 = some 1 := rfl
theorem ixN_3_1 : ixN 3 1 = some 1 := rfl
theorem ixN_4_1 : ixN 4 1 = some 1 := rfl
theorem ixN_5_1 : ixN 5 1 = some 1 := rfl
theorem ixN_6_1 : ixN 6 1 = some 1 := rfl
theorem atI_2 {α : Type} {a0 a1 a2 : α} {r : List α} : atI (a0 :: a1 :: a2 :: r) 2 = some a2 := atI_at (n := 2) rfl
theorem ixN_3_2 : ixN 3 2 = some 2 := rfl
theorem ixN_4_2 : ixN 4 2 = some 2 := rfl
theorem ixN_5_2 : ixN 5 2 = some 2 := rfl
theorem ixN_6_2 : ixN 6 2 = some 2 := rfl
theorem atI_3 {α : Type} {a0 a1 a2 a3 : α} {r : List α} : atI (a0 :: a1 :: a2 :: a3 :: r) 3 = some a3 := atI_at (n := 3) rfl
theorem ixN_4_3 : ixN 4 3 = some 3 := rfl
theorem ixN_5_3 : ixN 5 3 = some 3 := rfl
theorem ixN_6_3 : ixN 6 3 = some 3 := rfl
theorem atI_4 {α : Type} {a0 a1 a2 a3 a4 : α} {r : List α} : atI (a0 :: a1 :: a2 :: a3 :: a4 :: r) 4 = some a4 := atI_at (n := 4) rfl
theorem ixN_5_4 : ixN 5 4 = some 4 := rfl
theorem ixN_6_4 : ixN 6 4 = some 4 := rfl
theorem atI_5 {α : Type} {a0 a1 a2 a3 a4 a5 : α} {r : List α} : atI (a0 :: a1 :: a2 :: a3 :: a4 :: a5 :: r) 5 = some a5 := atI_at (n := 5) rfl
theorem ixN_6_5 : ixN 6 5 = some 5 := rfl
theorem atI_6 {α : Type} {a0 a1 a2 a3 a4 a5 a6 : α} {r : List α} : atI (a0 :: a1 :: a2 :: a3 :: a4 :: a5 :: a6 :: r) 6 = some a6 := atI_at (n := 6) rfl
theorem atI_7 {α : Type} {a0 a1 a2 a3 a4 a5 a6 a7 : α} {r : List α} : atI (a0 :: a1 :: a2 :: a3 :: a4 :: a5 :: a6 :: a7 :: r) 7 = some a7 := atI_at (n := 7) rfl
theorem atI_8 {α : Type} {a0 a1 a2 a3 a4 a5 a6 a7 a8 : α} {r : List α} : atI (a0 :: a1 :: a2 :: a3 :: a4 :: a5 :: a6 :: a7 :: a8 :: r) 8 = some a8 := atI_at (n := 8) rfl
theorem atI_9 {α : Type} {a0 a1 a2 a3 a4 a5 a6 a7 a8 a9 : α} {r : List α} : atI (a0 :: a1 :: a2 :: a3 :: a4 :: a5 :: a6 :: a7 :: a8 :: a9 :: r) 9 = some a9 := atI_at (n := 9) rfl
theorem atI_10 {α : Type} {a0 a1 a2 a3 a4 a5 a6 a7 a8 a9 a10 : α} {r : List α} : atI (a0 :: a1 :: a2 :: a3 :: a4 :: a5 :: a6 :: a7 :: a8 :: a9 :: a10 :: r) 10 = some a10 := atI_at (n := 10) rfl
theorem atI_11 {α : Type} {a0 a1 a2 a3 a4 a5 a6 a7 a8 a9 a10 a11 : α} {r : List α} : atI (a0 :: a1 :: a2 :: a3 :: a4 :: a5 :: a6 :: a7 :: a8 :: a9 :: a10 :: a11 :: r) 11 = some a11 := atI_at (n := 11) rfl
theorem atI_12 {α : Type} {a0 a1 a2 a3 a4 a5 a6 a7 a8 a9 a10 a11 a12 : α} {r : List α} : atI (a0 :: a1 :: a2 :: a3 :: a4 :: a5 :: a6 :: a7 :: a8 :: a9 :: a10 :: a11 :: a12 :: r) 12 = some a12 := atI_at (n := 12) rfl
theorem fLen_lst {ds : List D} {M : Mem} : fLen (.lst ds) M = .ok (.int ds.length) M := rfl
theorem fLen_tup {ds : List D} {M : Mem} : fLen (.tup ds) M = .ok (.int ds.length) M := rfl
theorem fInt1_int {i : Int} {M : Mem} : fInt1 (.int i) M = .ok (.int i) M := rfl
theorem isi_non_bool {M : Mem} : fIsi [.non, .ty "bool"] M = .ok (.bl false) M := rfl
theorem isi_bl_bool {b : Bool} {M : Mem} : fIsi [(.bl b), .ty "bool"] M = .ok (.bl true) M := rfl
theorem isi_int_bool {i : Int} {M : Mem} : fIsi [(.int i), .ty "bool"] M = .ok (.bl false) M := rfl
theorem isi_str_bool {z : Str} {M : Mem} : fIsi [(.str z), .ty "bool"] M = .ok (.bl false) M := rfl
theorem isi_lst_bool {ds : List D} {M : Mem} : fIsi [(.lst ds), .ty "bool"] M = .ok (.bl false) M := rfl
theorem isi_tup_bool {ds : List D} {M : Mem} : fIsi [(.tup ds), .ty "bool"] M = .ok (.bl false) M := rfl
theorem isi_non_int {M : Mem} : fIsi [.non, .ty "int"] M = .ok (.bl false) M := rfl
theorem isi_bl_int {b : Bool} {M : Mem} : fIsi [(.bl b), .ty "int"] M = .ok (.bl true) M := rfl
theorem isi_int_int {i : Int} {M : Mem} : fIsi [(.int i), .ty "int"] M = .ok (.bl true) M := rfl
theorem isi_str_int {z : Str} {M : Mem} : fIsi [(.str z), .ty "int"] M = .ok (.bl false) M := rfl
theorem isi_lst_int {ds : List D} {M : Mem} : fIsi [(.lst ds), .ty "int"] M = .ok (.bl false) M := rfl
theorem isi_tup_int {ds : List D} {M : Mem} : fIsi [(.tup ds), .ty "int"] M = .ok (.bl false) M := rfl
theorem isi_non_str {M : Mem} : fIsi [.non, .ty "str"] M = .ok (.bl false) M := rfl
theorem isi_bl_str {b : Bool} {M : Mem} : fIsi [(.bl b), .ty "str"] M = .ok (.bl false) M := rfl
theorem isi_int_str {i : Int} {M : Mem} : fIsi [(.int i), .ty "str"] M = .ok (.bl false) M := rfl
theorem isi_str_str {z : Str} {M : Mem} : fIsi [(.str z), .ty "str"] M = .ok (.bl true) M := rfl
theorem isi_lst_str {ds : List D} {M : Mem} : fIsi [(.lst ds), .ty "str"] M = .ok (.bl false) M := rfl
theorem isi_tup_str {ds : List D} {M : Mem} : fIsi [(.tup ds), .ty "str"] M = .ok (.bl false) M := rfl
theorem isi_non_list {M : Mem} : fIsi [.non, .ty "list"] M = .ok (.bl false) M := rfl
theorem isi_bl_list {b : Bool} {M : Mem} : fIsi [(.bl b), .ty "list"] M = .ok (.bl false) M := rfl
theorem isi_int_list {i : Int} {M : Mem} : fIsi [(.int i), .ty "list"] M = .ok (.bl false) M := rfl
theorem isi_str_list {z : Str} {M : Mem} : fIsi [(.str z), .ty "list"] M = .ok (.bl false) M := rfl
theorem isi_lst_list {ds : List D} {M : Mem} : fIsi [(.lst ds), .ty "list"] M = .ok (.bl true) M := rfl
theorem isi_tup_list {ds : List D} {M : Mem} : fIsi [(.tup ds), .ty "list"] M = .ok (.bl false) M := rfl
theorem isi_non_tuple {M : Mem} : fIsi [.non, .ty "tuple"] M = .ok (.bl false) M := rfl
theorem isi_bl_tuple {b : Bool} {M : Mem} : fIsi [(.bl b), .ty "tuple"] M = .ok (.bl false) M := rfl
theorem isi_int_tuple {i : Int} {M : Mem} : fIsi [(.int i), .ty "tuple"] M = .ok (.bl false) M := rfl
theorem isi_str_tuple {z : Str} {M : Mem} : fIsi [(.str z), .ty "tuple"] M = .ok (.bl false) M := rfl
theorem isi_lst_tuple {ds : List D} {M : Mem} : fIsi [(.lst ds), .ty "tuple"] M = .ok (.bl false) M := rfl
theorem isi_tup_tuple {ds : List D} {M : Mem} : fIsi [(.tup ds), .ty "tuple"] M = .ok (.bl true) M := rfl
theorem isi_non_dict {M : Mem} : fIsi [.non, .ty "dict"] M = .ok (.bl false) M := rfl
theorem isi_bl_dict {b : Bool} {M : Mem} : fIsi [(.bl b), .ty "dict"] M = .ok (.bl false) M := rfl
theorem isi_int_dict {i : Int} {M : Mem} : fIsi [(.int i), .ty "dict"] M = .ok (.bl false) M := rfl
theorem isi_str_dict {z : Str} {M : Mem} : fIsi [(.str z), .ty "dict"] M = .ok (.bl false) M := rfl
theorem isi_lst_dict {ds : List D} {M : Mem} : fIsi [(.lst ds), .ty "dict"] M = .ok (.bl false) M := rfl
theorem isi_tup_dict {ds : List D} {M : Mem} : fIsi [(.tup ds), .ty "dict"] M = .ok (.bl false) M := rfl
theorem isN_non {n : Bool} {M : Mem} : fIsN n .non .non M = .ok (.bl (!n)) M := rfl
theorem isN_bl {n : Bool} {b : Bool} {M : Mem} : fIsN n (.bl b) .non M = .ok (.bl n) M := rfl
theorem isN_int {n : Bool} {i : Int} {M : Mem} : fIsN n (.int i) .non M = .ok (.bl n) M := rfl
theorem isN_str {n : Bool} {z : Str} {M : Mem} : fIsN n (.str z) .non M = .ok (.bl n) M := rfl
theorem isN_lst {n : Bool} {ds : List D} {M : Mem} : fIsN n (.lst ds) .non M = .ok (.bl n) M := rfl
theorem isN_tup {n : Bool} {ds : List D} {M : Mem} : fIsN n (.tup ds) .non M = .ok (.bl n) M := rfl
def bodyK (r : Res Fl) : Res D := match r with
  | .ok (.nx _) M1 => .ok .non M1
  | .ok (.rt d) M1 => .ok d M1
  | .ok (.ex _ c ns vs) M1 => .exc c ns vs M1
  | _ => .bad
theorem body_eq {N : Nat} {m : SS} {ds : List D} {M : Mem} : mBody N m ds M = bodyK (m (rho0 N ds) M) := rfl

theorem bodyK_nx {ρ : Rho} {M : Mem} : bodyK (.ok (.nx ρ) M) = .ok .non M := rfl
theorem bodyK_rt {d : D} {M : Mem} : bodyK (.ok (.rt d) M) = .ok d M := rfl
theorem bodyK_ex {ρ : Rho} {c : Str} {ns : List Str} {ds : List D} {M : Mem} : bodyK (.ok (.ex ρ c ns ds) M) = .exc c ns ds M := rfl
end DL

set_option maxHeartbeats 4000000
/-! PL, part b: the bag of draws, the comparison, comprehensions -/
namespace DL
open PySem PySem.Spec PyProof.Rows L2
def mBag : SS :=
  (mRet (mOwn (mLst (mCons (mOwn (mLc (mIAny (mSl (mVar 0) mNoPart (mPart (mC (.int 63))))) (mgName 1) mYes (mCB (f1 fInt1) (mCons (mVar 1) mNil)) [1])) (mCons (mC (.int 0)) (mCons (mOp fAdd (mC (.int 5787)) (mOp fMul (mC (.int 37)) (mCB (f1 fLen) (mCons (mSl (mVar 0) mNoPart (mPart (mC (.int 63)))) mNil)))) mNil))))))
def gBag : GF := mBody 2 mBag
def mTakeT : SS :=
  (mSeq (mIfS (mTest (mOp fGt (mOp fIx (mVar 0) (mC (.int 1))) (mC (.int 0)))) (mSeq (mAsg (mOp fMod (mCB (f1 fInt1) (mCons (mOp fIx (mVar 0) (mC (.int 1))) mNil)) (mVar 1)) (mgName 3))
    (mSeq (mSetIx (mOp fFdiv (mCB (f1 fInt1) (mCons (mOp fIx (mVar 0) (mC (.int 1))) mNil)) (mVar 1)) (mVar 0) (mC (.int 1)))
    (mRet (mVar 3)))) mNext)
    (mSeq (mAsg (mOp fMod (mCB (f1 fInt1) (mCons (mOp fMul (mOp fIx (mVar 0) (mC (.int 2))) (mOp fIx (mVar 0) (mC (.int 2)))) mNil)) (mC (.int 2147483563))) (mgName 4))
    (mSeq (mSetIx (mOp fMod (mCB (f1 fInt1) (mCons (mOp fAdd (mOp fAdd (mOp fMul (mVar 4) (mC (.int 3041))) (mOp fMul (mOp fIx (mVar 0) (mC (.int 2))) (mC (.int 40692)))) (mC (.int 12211))) mNil)) (mC (.int 2147483563))) (mVar 0) (mC (.int 2)))
    (mRet (mOp fMod (mCB (f1 fInt1) (mCons (mOp fAdd (mOp fFdiv (mOp fIx (mVar 0) (mC (.int 2))) (mC (.int 37))) (mOp fMul (mOp fMod (mCB (f1 fInt1) (mCons (mOp fIx (mVar 0) (mC (.int 2))) mNil)) (mC (.int 5003))) (mC (.int 89)))) mNil)) (mVar 1))))))
def mTake : SS :=
  (mSeq (mIfS (mAnd (mTest (mOp fEqA (mOp fIx (mVar 0) (mC (.int 1))) (mC (.int 0)))) (mTest (mOp fNeA (mOp fIx (mVar 0) (mC (.int 0))) (mLst mNil)))) (mSeq (mAsg (mPopAt (mOp fIx (mVar 0) (mC (.int 0))) 0) (mgName 2))
    (mIfS (mTest (mOp fGe (mVar 2) (mOp fPow (mC (.int 10)) (mC (.int 18))))) (mSetIx (mVar 2) (mVar 0) (mC (.int 1))) (mSetIx (mOp fMod (mCB (f1 fInt1) (mCons (mOp fAdd (mOp fAdd (mOp fMul (mOp fIx (mVar 0) (mC (.int 2))) (mC (.int 40014))) (mOp fMul (mVar 2) (mC (.int 7919)))) (mC (.int 31))) mNil)) (mC (.int 2147483563))) (mVar 0) (mC (.int 2))))) mNext)
   mTakeT)
def gTake : GF := mBody 5 mTake
def mOf : SS :=
  (mRet (mOp fIx (mVar 1) (mCall 2 gTake [] (mCons (mVar 0) (mCons (mCB (f1 fLen) (mCons (mVar 1) mNil)) mNil)))))
def gOf : GF := mBody 2 mOf
def mSame (rec : GF) : SS :=
  (mSeq (mIfS (mOr (mTest (mOp (fIsN false) (mVar 1) (mC .non))) (mTest (mOp (fIsN false) (mVar 0) (mC .non)))) (mRet (mB (mAnd (mTest (mOp (fIsN false) (mVar 1) (mC .non))) (mTest (mOp (fIsN false) (mVar 0) (mC .non)))))) mNext)
    (mSeq (mIfS (mOr (mTest (mCB fIsi (mCons (mVar 1) (mCons (mC (.ty "bool")) mNil)))) (mTest (mCB fIsi (mCons (mVar 0) (mCons (mC (.ty "bool")) mNil))))) (mRet (mB (mAnd (mTest (mCB fIsi (mCons (mVar 1) (mCons (mC (.ty "bool")) mNil)))) (mTest (mB (mAnd (mTest (mCB fIsi (mCons (mVar 0) (mCons (mC (.ty "bool")) mNil)))) (mTest (mOp fEqA (mVar 1) (mVar 0))))))))) mNext)
    (mSeq (mIfS (mTest (mCB fIsi (mCons (mVar 1) (mCons (mC (.ty "int")) mNil)))) (mRet (mB (mAnd (mTest (mCB fIsi (mCons (mVar 0) (mCons (mC (.ty "int")) mNil)))) (mTest (mOp fEqA (mVar 1) (mVar 0)))))) mNext)
    (mSeq (mIfS (mTest (mCB fIsi (mCons (mVar 1) (mCons (mC (.ty "str")) mNil)))) (mRet (mB (mAnd (mTest (mCB fIsi (mCons (mVar 0) (mCons (mC (.ty "str")) mNil)))) (mTest (mOp fEqA (mVar 1) (mVar 0)))))) mNext)
    (mSeq (mIfS (mAnd (mTest (mCB fIsi (mCons (mVar 1) (mCons (mC (.ty "list")) mNil)))) (mNot (mTest (mCB fIsi (mCons (mVar 0) (mCons (mC (.ty "list")) mNil)))))) (mRet (mC (.bl false))) mNext)
    (mSeq (mIfS (mAnd (mTest (mCB fIsi (mCons (mVar 1) (mCons (mC (.ty "tuple")) mNil)))) (mNot (mTest (mCB fIsi (mCons (mVar 0) (mCons (mC (.ty "tuple")) mNil)))))) (mRet (mC (.bl false))) mNext)
    (mRet (mB (mAnd (mTest (mOp fEqA (mCB (f1 fLen) (mCons (mVar 0) mNil)) (mCB (f1 fLen) (mCons (mVar 1) mNil)))) (mTest (mCB (f1 fAll) (mCons (mLc (mZip (mCons (mVar 0) (mCons (mVar 1) mNil))) (mgTup 2 (mgCons (mgName 2) (mgCons (mgName 3) mgNil))) mYes (mCall 2 rec [] (mCons (mVar 2) (mCons (mVar 3) mNil))) [2, 3]) mNil))))))))))))
def gSame : Nat → GF
  | 0 => fun _ _ => .bad
  | n + 1 => mBody 4 (mSame (gSame n))

/-- the bag: its cells, its number, its seed; the rest of the memory -/
def BagR (M : Mem) (rest : Mem) : Prop := ∃ (ns : List Int) (n sd : Int), M = .lst (ns.map D.int) :: .lst [.obj 0, .int n, .int sd] :: rest ∧ 0 ≤ n ∧ 0 ≤ sd ∧ sd < 2147483563
theorem lc_pure {ρ : Rho} {mg : SG} {te : SE} {M : Mem} (f : D → D) : ∀ (ds : List D), (∀ d, d ∈ ds → ∃ ρ1, mg d ρ = some ρ1 ∧ te ρ1 M = .ok (f d) M) → lcGo ρ mg mYes te ds M = .ok (ds.map f) M
  | [], _ => rfl
  | d :: r, h => by
    obtain ⟨ρ1, h1, h2⟩ := h d (List.mem_cons_self ..)
    rw [lcGo_cons, h1, lcK2_some, mYes_go, lcK3_t, h2, lcK4_ok, lc_pure f r fun d hd => h d (List.mem_cons_of_mem _ hd)]
    rfl
inductive All2 (P : D → D → Prop) : List D → List D → Prop where
  | nil : All2 P [] []
  | cons {d y ds ys} : P d y → All2 P ds ys → All2 P (d :: ds) (y :: ys)
/-- a comprehension whose parts change the memory: what holds before holds after -/
theorem lc_inv {ρ : Rho} {mg : SG} {te : SE} (I : Mem → Prop) (P : D → D → Prop) : ∀ (ds : List D) (M : Mem), I M → (∀ d, d ∈ ds → ∀ M, I M → ∃ (ρ1 : Rho) (y : D) (M' : Mem), mg d ρ = some ρ1 ∧ te ρ1 M = .ok y M' ∧ P d y ∧ I M') →
    ∃ (ys : List D) (M' : Mem), lcGo ρ mg mYes te ds M = .ok ys M' ∧ All2 P ds ys ∧ I M'
  | [], M, i, _ => ⟨[], M, rfl, .nil, i⟩
  | d :: r, M, i, h => by
    obtain ⟨ρ1, y, M1, h1, h2, h3, i1⟩ := h d (List.mem_cons_self ..) M i
    obtain ⟨ys, M2, e, p, i2⟩ := lc_inv I P r M1 i1 fun d hd => h d (List.mem_cons_of_mem _ hd)
    refine ⟨y :: ys, M2, ?_, .cons h3 p, i2⟩
    rw [lcGo_cons, h1, lcK2_some, mYes_go, lcK3_t, h2, lcK4_ok, e]
    rfl
theorem take_tail {ns : List Int} {n sd m : Int} {rest : Mem} {x : Sl} (hn : 0 ≤ n) (s0 : 0 ≤ sd) (s1 : sd < 2147483563) (h0 : 0 < m) (h1 : m < 2 ^ 62) :
    ∃ (k : Int) (M' : Mem), bodyK (mTakeT [.val (.obj 1), .val (.int m), x, .no, .no] (.lst (ns.map D.int) :: .lst [.obj 0, .int n, .int sd] :: rest)) = .ok (.int k) M' ∧ 0 ≤ k ∧ k < m ∧ BagR M' rest := by
  have eM : ∀ (i : Int) (M : Mem), fMod (.int i) (.int m) M = .ok (.int (i % m)) M := fun i M => fMod_int h0
  have eD : ∀ (i : Int) (M : Mem), fFdiv (.int i) (.int m) M = .ok (.int (i / m)) M := fun i M => fFdiv_int h0 h1
  have eS : ∀ (M : Mem), fMul (.int sd) (.int sd) M = .ok (.int (sd * sd)) M := fun M => fMul_int (by omega)
  have e1 : ∀ (i : Int) (M : Mem), fMul (.int i) (.int 3041) M = .ok (.int (i * 3041)) M := fun i M => fMul_int (by omega)
  have e2 : ∀ (i : Int) (M : Mem), fMul (.int i) (.int 40692) M = .ok (.int (i * 40692)) M := fun i M => fMul_int (by omega)
  have e3 : ∀ (i : Int) (M : Mem), fMul (.int i) (.int 89) M = .ok (.int (i * 89)) M := fun i M => fMul_int (by omega)
  have e4 : ∀ (i : Int) (M : Mem), fMod (.int i) (.int 2147483563) M = .ok (.int (i % 2147483563)) M := fun i M => fMod_int (by omega)
  have e5 : ∀ (i : Int) (M : Mem), fMod (.int i) (.int 5003) M = .ok (.int (i % 5003)) M := fun i M => fMod_int (by omega)
  have e6 : ∀ (i : Int) (M : Mem), fFdiv (.int i) (.int 37) M = .ok (.int (i / 37)) M := fun i M => fFdiv_int (by omega) (by omega)
  by_cases c : 0 < n
  · refine ⟨n % m, .lst (ns.map D.int) :: .lst [.obj 0, .int (n / m), .int sd] :: rest, ?_, Int.emod_nonneg _ (by omega), Int.emod_lt_of_pos _ h0, ns, n / m, sd, rfl, Int.ediv_nonneg hn (by omega), s0, s1⟩
    simp only [mTakeT, mVar_go, varK_ok, mC_go, opK2_ok, opK2_exc, opK_ok, opK_exc, mOp_go, mNil_go, consK2_ok, consK2_exc, consK_ok, consK_exc, mCons_go, tupK_ok, tupK_exc, mTup_go, lstK_ok, lstK_exc, mLst_go, ownK_ok, ownK_ok1, ownK_ok2, ownK_exc, mOwn_go, tsK_ok, tsK_exc, mTest_go, andK_ok, andK_ok1, andK_exc, mAnd_go, orK_ok, orK_ok1, orK_exc, mOr_go, notK_ok, notK_exc, mNot_go, mbK_ok, mbK_exc, mB_go, ifeK_ok, ifeK_ok1, ifeK_exc, mIfE_go, mYes_go, mNext_go, seqK_nx, seqK_rt, seqK_bk, seqK_ct, seqK_ex, mSeq_go, ifK_ok, ifK_ok1, ifK_exc, mIfS_go, retK_ok, retK_exc, mRet_go, mRetN_go, dropK_ok, dropK_exc, mDrop_go, mBreak_go, mCont_go, putK_some, asgK_ok, asgK_exc, mAsg_go, mgName_go, mgNil_go, gsK_some, mgCons_go, mgTup_go, parK_ok, parK_exc, mPar_go, setK3_exc, set5_ok, set4_ok, setK3_ok, setK2_ok, setK2_exc, setK_ok, setK_exc, mSetIx_go, popK_ok, popK_exc, mPopAt_go, forGo_nil, forK2_some, forK3_nx, forK3_ct, forK3_bk, forK3_rt, forK3_ex, forK_ok, forK_exc, mFor_go, lcE_ok, lcE_exc, lcK_ok, lcK_exc, mLc_go, wipe_nil, wipe_cons, lcGo_nil, lcK4_ok, lcK3_t, lcK3_f, lcK2_some, rng1K_ok, rng1K_exc, mRng1_go, itK_ok, itK_ok1, itK_ok2, itK_exc, mIAny_go, zipK_ok, zipK_exc, mZip_go, callK_ok, callK_exc, mCall_go, kcK2_ok, kcK2_exc, kcK_ok, kcK_exc, mCallK_go, cbK_ok, cbK_exc, mCB_go, f1_go, chK4_ok, chK4_exc, chK3_ok, chK3_ok1, chK3_exc, chK2_ok, chK2_exc, chK_ok, chK_exc, mChain_go, mNoPart_go, partK_ok, partK_exc, mPart_go, slK3_ok, slK3_exc, slK2_ok, slK2_exc, slK_ok, slK_exc, mSl_go, fSl_str, fSl_lst, fSl_tup, fSl_scr, m1K2_ok, m1K2_exc, m1K_ok, m1K_exc, mM1_go, fLt_int, fLe_int, fGt_int, fGe_int, fSub_int, fAdd_int, fPop_go, pop2_ok, ixL_ok, ixO_ok, fIx_goL, fIx_goT, fIx_goO, atI_0, ixN_1_0, ixN_2_0, ixN_3_0, ixN_4_0, ixN_5_0, ixN_6_0, atI_1, ixN_2_1, ixN_3_1, ixN_4_1, ixN_5_1, ixN_6_1, atI_2, ixN_3_2, ixN_4_2, ixN_5_2, ixN_6_2, atI_3, ixN_4_3, ixN_5_3, ixN_6_3, atI_4, ixN_5_4, ixN_6_4, atI_5, ixN_6_5, atI_6, atI_7, atI_8, atI_9, atI_10, atI_11, atI_12, fLen_lst, fLen_tup, fInt1_int, fEqA_int, fEqA_str, fEqA_bl, fNeA_int, fNeA_str, isi_non_bool, isi_bl_bool, isi_int_bool, isi_str_bool, isi_lst_bool, isi_tup_bool, isi_non_int, isi_bl_int, isi_int_int, isi_str_int, isi_lst_int, isi_tup_int, isi_non_str, isi_bl_str, isi_int_str, isi_str_str, isi_lst_str, isi_tup_str, isi_non_list, isi_bl_list, isi_int_list, isi_str_list, isi_lst_list, isi_tup_list, isi_non_tuple, isi_bl_tuple, isi_int_tuple, isi_str_tuple, isi_lst_tuple, isi_tup_tuple, isi_non_dict, isi_bl_dict, isi_int_dict, isi_str_dict, isi_lst_dict, isi_tup_dict, isN_non, isN_bl, isN_int, isN_str, isN_lst, isN_tup, body_eq, bodyK_nx, bodyK_rt, bodyK_ex, rho0, List.map_cons, List.map_nil, List.length_cons, List.length_nil, List.replicate_succ, List.replicate_zero, List.cons_append, List.nil_append, List.append_nil, List.set_cons_succ, List.set_cons_zero, List.getElem?_cons_zero, List.getElem?_cons_succ, Nat.reduceAdd, Nat.reduceSub, Nat.zero_add, Nat.reduceEqDiff, if_true, ite_true, ite_false, eq_self, ite_self, size_eq, and_self, Nat.zero_le, Nat.reduceLeDiff, eM, eD, c, decide_true]
  · have en : n = 0 := by omega
    subst en
    have key : ∀ q : Int, ∃ u : Int, 0 ≤ u ∧ u < 2147483563 ∧ u = q % 2147483563 := fun q => ⟨_, Int.emod_nonneg _ (by omega), Int.emod_lt_of_pos _ (by omega), rfl⟩
    obtain ⟨u, u0, u1, eu⟩ := key (sd * sd % 2147483563 * 3041 + sd * 40692 + 12211)
    refine ⟨(u / 37 + u % 5003 * 89) % m, .lst (ns.map D.int) :: .lst [.obj 0, .int 0, .int u] :: rest, ?_, Int.emod_nonneg _ (by omega), Int.emod_lt_of_pos _ h0, ns, 0, u, rfl, hn, u0, u1⟩
    simp only [mTakeT, mVar_go, varK_ok, mC_go, opK2_ok, opK2_exc, opK_ok, opK_exc, mOp_go, mNil_go, consK2_ok, consK2_exc, consK_ok, consK_exc, mCons_go, tupK_ok, tupK_exc, mTup_go, lstK_ok, lstK_exc, mLst_go, ownK_ok, ownK_ok1, ownK_ok2, ownK_exc, mOwn_go, tsK_ok, tsK_exc, mTest_go, andK_ok, andK_ok1, andK_exc, mAnd_go, orK_ok, orK_ok1, orK_exc, mOr_go, notK_ok, notK_exc, mNot_go, mbK_ok, mbK_exc, mB_go, ifeK_ok, ifeK_ok1, ifeK_exc, mIfE_go, mYes_go, mNext_go, seqK_nx, seqK_rt, seqK_bk, seqK_ct, seqK_ex, mSeq_go, ifK_ok, ifK_ok1, ifK_exc, mIfS_go, retK_ok, retK_exc, mRet_go, mRetN_go, dropK_ok, dropK_exc, mDrop_go, mBreak_go, mCont_go, putK_some, asgK_ok, asgK_exc, mAsg_go, mgName_go, mgNil_go, gsK_some, mgCons_go, mgTup_go, parK_ok, parK_exc, mPar_go, setK3_exc, set5_ok, set4_ok, setK3_ok, setK2_ok, setK2_exc, setK_ok, setK_exc, mSetIx_go, popK_ok, popK_exc, mPopAt_go, forGo_nil, forK2_some, forK3_nx, forK3_ct, forK3_bk, forK3_rt, forK3_ex, forK_ok, forK_exc, mFor_go, lcE_ok, lcE_exc, lcK_ok, lcK_exc, mLc_go, wipe_nil, wipe_cons, lcGo_nil, lcK4_ok, lcK3_t, lcK3_f, lcK2_some, rng1K_ok, rng1K_exc, mRng1_go, itK_ok, itK_ok1, itK_ok2, itK_exc, mIAny_go, zipK_ok, zipK_exc, mZip_go, callK_ok, callK_exc, mCall_go, kcK2_ok, kcK2_exc, kcK_ok, kcK_exc, mCallK_go, cbK_ok, cbK_exc, mCB_go, f1_go, chK4_ok, chK4_exc, chK3_ok, chK3_ok1, chK3_exc, chK2_ok, chK2_exc, chK_ok, chK_exc, mChain_go, mNoPart_go, partK_ok, partK_exc, mPart_go, slK3_ok, slK3_exc, slK2_ok, slK2_exc, slK_ok, slK_exc, mSl_go, fSl_str, fSl_lst, fSl_tup, fSl_scr, m1K2_ok, m1K2_exc, m1K_ok, m1K_exc, mM1_go, fLt_int, fLe_int, fGt_int, fGe_int, fSub_int, fAdd_int, fPop_go, pop2_ok, ixL_ok, ixO_ok, fIx_goL, fIx_goT, fIx_goO, atI_0, ixN_1_0, ixN_2_0, ixN_3_0, ixN_4_0, ixN_5_0, ixN_6_0, atI_1, ixN_2_1, ixN_3_1, ixN_4_1, ixN_5_1, ixN_6_1, atI_2, ixN_3_2, ixN_4_2, ixN_5_2, ixN_6_2, atI_3, ixN_4_3, ixN_5_3, ixN_6_3, atI_4, ixN_5_4, ixN_6_4, atI_5, ixN_6_5, atI_6, atI_7, atI_8, atI_9, atI_10, atI_11, atI_12, fLen_lst, fLen_tup, fInt1_int, fEqA_int, fEqA_str, fEqA_bl, fNeA_int, fNeA_str, isi_non_bool, isi_bl_bool, isi_int_bool, isi_str_bool, isi_lst_bool, isi_tup_bool, isi_non_int, isi_bl_int, isi_int_int, isi_str_int, isi_lst_int, isi_tup_int, isi_non_str, isi_bl_str, isi_int_str, isi_str_str, isi_lst_str, isi_tup_str, isi_non_list, isi_bl_list, isi_int_list, isi_str_list, isi_lst_list, isi_tup_list, isi_non_tuple, isi_bl_tuple, isi_int_tuple, isi_str_tuple, isi_lst_tuple, isi_tup_tuple, isi_non_dict, isi_bl_dict, isi_int_dict, isi_str_dict, isi_lst_dict, isi_tup_dict, isN_non, isN_bl, isN_int, isN_str, isN_lst, isN_tup, body_eq, bodyK_nx, bodyK_rt, bodyK_ex, rho0, List.map_cons, List.map_nil, List.length_cons, List.length_nil, List.replicate_succ, List.replicate_zero, List.cons_append, List.nil_append, List.append_nil, List.set_cons_succ, List.set_cons_zero, List.getElem?_cons_zero, List.getElem?_cons_succ, Nat.reduceAdd, Nat.reduceSub, Nat.zero_add, Nat.reduceEqDiff, if_true, ite_true, ite_false, eq_self, ite_self, size_eq, and_self, Nat.zero_le, Nat.reduceLeDiff, eM, eS, e1, e2, e3, e4, e5, e6, decide_false, Int.lt_irrefl, ← eu]
theorem take_ok {M rest : Mem} {m : Int} (h : BagR M rest) (h0 : 0 < m) (h1 : m < 2 ^ 62) : ∃ (k : Int) (M' : Mem), gTake [.obj 1, .int m] M = .ok (.int k) M' ∧ 0 ≤ k ∧ k < m ∧ BagR M' rest := by
  obtain ⟨ns, n, sd, rfl, hn, s0, s1⟩ := h
  have fin : ∀ (x : Sl) (ns : List Int) (n sd : Int), 0 ≤ n → 0 ≤ sd → sd < 2147483563 → ∃ (k : Int) (M' : Mem), bodyK (mTakeT [.val (.obj 1), .val (.int m), x, .no, .no] (.lst (ns.map D.int) :: .lst [.obj 0, .int n, .int sd] :: rest)) = .ok (.int k) M' ∧ 0 ≤ k ∧ k < m ∧ BagR M' rest :=
    fun x ns n sd a b c => take_tail a b c h0 h1
  have e1 : ∀ (i : Int) (M : Mem), fMul (.int i) (.int 40014) M = .ok (.int (i * 40014)) M := fun i M => fMul_int (by omega)
  have e2 : ∀ (i : Int) (M : Mem), fMul (.int i) (.int 7919) M = .ok (.int (i * 7919)) M := fun i M => fMul_int (by omega)
  have e3 : ∀ (i : Int) (M : Mem), fMod (.int i) (.int 2147483563) M = .ok (.int (i % 2147483563)) M := fun i M => fMod_int (by omega)
  have e4 : ∀ (M : Mem), fPow (.int 10) (.int 18) M = .ok (.int (10 ^ 18)) M := fun M => fPow_int (by decide)
  by_cases c : n = 0
  · subst c
    have eN : fNeA (.obj 0) (.lst []) (.lst (ns.map D.int) :: .lst [.obj 0, .int 0, .int sd] :: rest) = .ok (.bl (!ns.isEmpty)) (.lst (ns.map D.int) :: .lst [.obj 0, .int 0, .int sd] :: rest) := fNeA_cells (by rfl)
    cases ns with
    | nil =>
      have eN : fNeA (.obj 0) (.lst []) (.lst [] :: .lst [.obj 0, .int 0, .int sd] :: rest) = .ok (.bl false) (.lst [] :: .lst [.obj 0, .int 0, .int sd] :: rest) := eN
      obtain ⟨k, M', q⟩ := fin .no [] 0 sd hn s0 s1
      refine ⟨k, M', ?_, q.2⟩
      simp only [gTake, mTake, mVar_go, varK_ok, mC_go, opK2_ok, opK2_exc, opK_ok, opK_exc, mOp_go, mNil_go, consK2_ok, consK2_exc, consK_ok, consK_exc, mCons_go, tupK_ok, tupK_exc, mTup_go, lstK_ok, lstK_exc, mLst_go, ownK_ok, ownK_ok1, ownK_ok2, ownK_exc, mOwn_go, tsK_ok, tsK_exc, mTest_go, andK_ok, andK_ok1, andK_exc, mAnd_go, orK_ok, orK_ok1, orK_exc, mOr_go, notK_ok, notK_exc, mNot_go, mbK_ok, mbK_exc, mB_go, ifeK_ok, ifeK_ok1, ifeK_exc, mIfE_go, mYes_go, mNext_go, seqK_nx, seqK_rt, seqK_bk, seqK_ct, seqK_ex, mSeq_go, ifK_ok, ifK_ok1, ifK_exc, mIfS_go, retK_ok, retK_exc, mRet_go, mRetN_go, dropK_ok, dropK_exc, mDrop_go, mBreak_go, mCont_go, putK_some, asgK_ok, asgK_exc, mAsg_go, mgName_go, mgNil_go, gsK_some, mgCons_go, mgTup_go, parK_ok, parK_exc, mPar_go, setK3_exc, set5_ok, set4_ok, setK3_ok, setK2_ok, setK2_exc, setK_ok, setK_exc, mSetIx_go, popK_ok, popK_exc, mPopAt_go, forGo_nil, forK2_some, forK3_nx, forK3_ct, forK3_bk, forK3_rt, forK3_ex, forK_ok, forK_exc, mFor_go, lcE_ok, lcE_exc, lcK_ok, lcK_exc, mLc_go, wipe_nil, wipe_cons, lcGo_nil, lcK4_ok, lcK3_t, lcK3_f, lcK2_some, rng1K_ok, rng1K_exc, mRng1_go, itK_ok, itK_ok1, itK_ok2, itK_exc, mIAny_go, zipK_ok, zipK_exc, mZip_go, callK_ok, callK_exc, mCall_go, kcK2_ok, kcK2_exc, kcK_ok, kcK_exc, mCallK_go, cbK_ok, cbK_exc, mCB_go, f1_go, chK4_ok, chK4_exc, chK3_ok, chK3_ok1, chK3_exc, chK2_ok, chK2_exc, chK_ok, chK_exc, mChain_go, mNoPart_go, partK_ok, partK_exc, mPart_go, slK3_ok, slK3_exc, slK2_ok, slK2_exc, slK_ok, slK_exc, mSl_go, fSl_str, fSl_lst, fSl_tup, fSl_scr, m1K2_ok, m1K2_exc, m1K_ok, m1K_exc, mM1_go, fLt_int, fLe_int, fGt_int, fGe_int, fSub_int, fAdd_int, fPop_go, pop2_ok, ixL_ok, ixO_ok, fIx_goL, fIx_goT, fIx_goO, atI_0, ixN_1_0, ixN_2_0, ixN_3_0, ixN_4_0, ixN_5_0, ixN_6_0, atI_1, ixN_2_1, ixN_3_1, ixN_4_1, ixN_5_1, ixN_6_1, atI_2, ixN_3_2, ixN_4_2, ixN_5_2, ixN_6_2, atI_3, ixN_4_3, ixN_5_3, ixN_6_3, atI_4, ixN_5_4, ixN_6_4, atI_5, ixN_6_5, atI_6, atI_7, atI_8, atI_9, atI_10, atI_11, atI_12, fLen_lst, fLen_tup, fInt1_int, fEqA_int, fEqA_str, fEqA_bl, fNeA_int, fNeA_str, isi_non_bool, isi_bl_bool, isi_int_bool, isi_str_bool, isi_lst_bool, isi_tup_bool, isi_non_int, isi_bl_int, isi_int_int, isi_str_int, isi_lst_int, isi_tup_int, isi_non_str, isi_bl_str, isi_int_str, isi_str_str, isi_lst_str, isi_tup_str, isi_non_list, isi_bl_list, isi_int_list, isi_str_list, isi_lst_list, isi_tup_list, isi_non_tuple, isi_bl_tuple, isi_int_tuple, isi_str_tuple, isi_lst_tuple, isi_tup_tuple, isi_non_dict, isi_bl_dict, isi_int_dict, isi_str_dict, isi_lst_dict, isi_tup_dict, isN_non, isN_bl, isN_int, isN_str, isN_lst, isN_tup, body_eq, bodyK_nx, bodyK_rt, bodyK_ex, rho0, List.map_cons, List.map_nil, List.length_cons, List.length_nil, List.replicate_succ, List.replicate_zero, List.cons_append, List.nil_append, List.append_nil, List.set_cons_succ, List.set_cons_zero, List.getElem?_cons_zero, List.getElem?_cons_succ, Nat.reduceAdd, Nat.reduceSub, Nat.zero_add, Nat.reduceEqDiff, if_true, ite_true, ite_false, eq_self, ite_self, size_eq, and_self, Nat.zero_le, Nat.reduceLeDiff, decide_true, eN, List.isEmpty_nil, Bool.not_true] at q ⊢
      exact q.1
    | cons a r =>
      have eN : fNeA (.obj 0) (.lst []) (.lst (.int a :: r.map D.int) :: .lst [.obj 0, .int 0, .int sd] :: rest) = .ok (.bl true) (.lst (.int a :: r.map D.int) :: .lst [.obj 0, .int 0, .int sd] :: rest) := eN
      by_cases c2 : 10 ^ 18 ≤ a
      · obtain ⟨k, M', q⟩ := fin (.val (.int a)) r a sd (by omega) s0 s1
        refine ⟨k, M', ?_, q.2⟩
        have q1 := q.1
        simp only [gTake, mTake, mVar_go, varK_ok, mC_go, opK2_ok, opK2_exc, opK_ok, opK_exc, mOp_go, mNil_go, consK2_ok, consK2_exc, consK_ok, consK_exc, mCons_go, tupK_ok, tupK_exc, mTup_go, lstK_ok, lstK_exc, mLst_go, ownK_ok, ownK_ok1, ownK_ok2, ownK_exc, mOwn_go, tsK_ok, tsK_exc, mTest_go, andK_ok, andK_ok1, andK_exc, mAnd_go, orK_ok, orK_ok1, orK_exc, mOr_go, notK_ok, notK_exc, mNot_go, mbK_ok, mbK_exc, mB_go, ifeK_ok, ifeK_ok1, ifeK_exc, mIfE_go, mYes_go, mNext_go, seqK_nx, seqK_rt, seqK_bk, seqK_ct, seqK_ex, mSeq_go, ifK_ok, ifK_ok1, ifK_exc, mIfS_go, retK_ok, retK_exc, mRet_go, mRetN_go, dropK_ok, dropK_exc, mDrop_go, mBreak_go, mCont_go, putK_some, asgK_ok, asgK_exc, mAsg_go, mgName_go, mgNil_go, gsK_some, mgCons_go, mgTup_go, parK_ok, parK_exc, mPar_go, setK3_exc, set5_ok, set4_ok, setK3_ok, setK2_ok, setK2_exc, setK_ok, setK_exc, mSetIx_go, popK_ok, popK_exc, mPopAt_go, forGo_nil, forK2_some, forK3_nx, forK3_ct, forK3_bk, forK3_rt, forK3_ex, forK_ok, forK_exc, mFor_go, lcE_ok, lcE_exc, lcK_ok, lcK_exc, mLc_go, wipe_nil, wipe_cons, lcGo_nil, lcK4_ok, lcK3_t, lcK3_f, lcK2_some, rng1K_ok, rng1K_exc, mRng1_go, itK_ok, itK_ok1, itK_ok2, itK_exc, mIAny_go, zipK_ok, zipK_exc, mZip_go, callK_ok, callK_exc, mCall_go, kcK2_ok, kcK2_exc, kcK_ok, kcK_exc, mCallK_go, cbK_ok, cbK_exc, mCB_go, f1_go, chK4_ok, chK4_exc, chK3_ok, chK3_ok1, chK3_exc, chK2_ok, chK2_exc, chK_ok, chK_exc, mChain_go, mNoPart_go, partK_ok, partK_exc, mPart_go, slK3_ok, slK3_exc, slK2_ok, slK2_exc, slK_ok, slK_exc, mSl_go, fSl_str, fSl_lst, fSl_tup, fSl_scr, m1K2_ok, m1K2_exc, m1K_ok, m1K_exc, mM1_go, fLt_int, fLe_int, fGt_int, fGe_int, fSub_int, fAdd_int, fPop_go, pop2_ok, ixL_ok, ixO_ok, fIx_goL, fIx_goT, fIx_goO, atI_0, ixN_1_0, ixN_2_0, ixN_3_0, ixN_4_0, ixN_5_0, ixN_6_0, atI_1, ixN_2_1, ixN_3_1, ixN_4_1, ixN_5_1, ixN_6_1, atI_2, ixN_3_2, ixN_4_2, ixN_5_2, ixN_6_2, atI_3, ixN_4_3, ixN_5_3, ixN_6_3, atI_4, ixN_5_4, ixN_6_4, atI_5, ixN_6_5, atI_6, atI_7, atI_8, atI_9, atI_10, atI_11, atI_12, fLen_lst, fLen_tup, fInt1_int, fEqA_int, fEqA_str, fEqA_bl, fNeA_int, fNeA_str, isi_non_bool, isi_bl_bool, isi_int_bool, isi_str_bool, isi_lst_bool, isi_tup_bool, isi_non_int, isi_bl_int, isi_int_int, isi_str_int, isi_lst_int, isi_tup_int, isi_non_str, isi_bl_str, isi_int_str, isi_str_str, isi_lst_str, isi_tup_str, isi_non_list, isi_bl_list, isi_int_list, isi_str_list, isi_lst_list, isi_tup_list, isi_non_tuple, isi_bl_tuple, isi_int_tuple, isi_str_tuple, isi_lst_tuple, isi_tup_tuple, isi_non_dict, isi_bl_dict, isi_int_dict, isi_str_dict, isi_lst_dict, isi_tup_dict, isN_non, isN_bl, isN_int, isN_str, isN_lst, isN_tup, body_eq, bodyK_nx, bodyK_rt, bodyK_ex, rho0, List.map_cons, List.map_nil, List.length_cons, List.length_nil, List.replicate_succ, List.replicate_zero, List.cons_append, List.nil_append, List.append_nil, List.set_cons_succ, List.set_cons_zero, List.getElem?_cons_zero, List.getElem?_cons_succ, Nat.reduceAdd, Nat.reduceSub, Nat.zero_add, Nat.reduceEqDiff, if_true, ite_true, ite_false, eq_self, ite_self, size_eq, and_self, Nat.zero_le, Nat.reduceLeDiff, decide_true, eN, List.isEmpty_cons, Bool.not_false, e4, c2, q1]
      · obtain ⟨k, M', q⟩ := fin (.val (.int a)) r 0 ((sd * 40014 + a * 7919 + 31) % 2147483563) (by omega) (Int.emod_nonneg _ (by omega)) (Int.emod_lt_of_pos _ (by omega))
        refine ⟨k, M', ?_, q.2⟩
        have q1 := q.1
        simp only [gTake, mTake, mVar_go, varK_ok, mC_go, opK2_ok, opK2_exc, opK_ok, opK_exc, mOp_go, mNil_go, consK2_ok, consK2_exc, consK_ok, consK_exc, mCons_go, tupK_ok, tupK_exc, mTup_go, lstK_ok, lstK_exc, mLst_go, ownK_ok, ownK_ok1, ownK_ok2, ownK_exc, mOwn_go, tsK_ok, tsK_exc, mTest_go, andK_ok, andK_ok1, andK_exc, mAnd_go, orK_ok, orK_ok1, orK_exc, mOr_go, notK_ok, notK_exc, mNot_go, mbK_ok, mbK_exc, mB_go, ifeK_ok, ifeK_ok1, ifeK_exc, mIfE_go, mYes_go, mNext_go, seqK_nx, seqK_rt, seqK_bk, seqK_ct, seqK_ex, mSeq_go, ifK_ok, ifK_ok1, ifK_exc, mIfS_go, retK_ok, retK_exc, mRet_go, mRetN_go, dropK_ok, dropK_exc, mDrop_go, mBreak_go, mCont_go, putK_some, asgK_ok, asgK_exc, mAsg_go, mgName_go, mgNil_go, gsK_some, mgCons_go, mgTup_go, parK_ok, parK_exc, mPar_go, setK3_exc, set5_ok, set4_ok, setK3_ok, setK2_ok, setK2_exc, setK_ok, setK_exc, mSetIx_go, popK_ok, popK_exc, mPopAt_go, forGo_nil, forK2_some, forK3_nx, forK3_ct, forK3_bk, forK3_rt, forK3_ex, forK_ok, forK_exc, mFor_go, lcE_ok, lcE_exc, lcK_ok, lcK_exc, mLc_go, wipe_nil, wipe_cons, lcGo_nil, lcK4_ok, lcK3_t, lcK3_f, lcK2_some, rng1K_ok, rng1K_exc, mRng1_go, itK_ok, itK_ok1, itK_ok2, itK_exc, mIAny_go, zipK_ok, zipK_exc, mZip_go, callK_ok, callK_exc, mCall_go, kcK2_ok, kcK2_exc, kcK_ok, kcK_exc, mCallK_go, cbK_ok, cbK_exc, mCB_go, f1_go, chK4_ok, chK4_exc, chK3_ok, chK3_ok1, chK3_exc, chK2_ok, chK2_exc, chK_ok, chK_exc, mChain_go, mNoPart_go, partK_ok, partK_exc, mPart_go, slK3_ok, slK3_exc, slK2_ok, slK2_exc, slK_ok, slK_exc, mSl_go, fSl_str, fSl_lst, fSl_tup, fSl_scr, m1K2_ok, m1K2_exc, m1K_ok, m1K_exc, mM1_go, fLt_int, fLe_int, fGt_int, fGe_int, fSub_int, fAdd_int, fPop_go, pop2_ok, ixL_ok, ixO_ok, fIx_goL, fIx_goT, fIx_goO, atI_0, ixN_1_0, ixN_2_0, ixN_3_0, ixN_4_0, ixN_5_0, ixN_6_0, atI_1, ixN_2_1, ixN_3_1, ixN_4_1, ixN_5_1, ixN_6_1, atI_2, ixN_3_2, ixN_4_2, ixN_5_2, ixN_6_2, atI_3, ixN_4_3, ixN_5_3, ixN_6_3, atI_4, ixN_5_4, ixN_6_4, atI_5, ixN_6_5, atI_6, atI_7, atI_8, atI_9, atI_10, atI_11, atI_12, fLen_lst, fLen_tup, fInt1_int, fEqA_int, fEqA_str, fEqA_bl, fNeA_int, fNeA_str, isi_non_bool, isi_bl_bool, isi_int_bool, isi_str_bool, isi_lst_bool, isi_tup_bool, isi_non_int, isi_bl_int, isi_int_int, isi_str_int, isi_lst_int, isi_tup_int, isi_non_str, isi_bl_str, isi_int_str, isi_str_str, isi_lst_str, isi_tup_str, isi_non_list, isi_bl_list, isi_int_list, isi_str_list, isi_lst_list, isi_tup_list, isi_non_tuple, isi_bl_tuple, isi_int_tuple, isi_str_tuple, isi_lst_tuple, isi_tup_tuple, isi_non_dict, isi_bl_dict, isi_int_dict, isi_str_dict, isi_lst_dict, isi_tup_dict, isN_non, isN_bl, isN_int, isN_str, isN_lst, isN_tup, body_eq, bodyK_nx, bodyK_rt, bodyK_ex, rho0, List.map_cons, List.map_nil, List.length_cons, List.length_nil, List.replicate_succ, List.replicate_zero, List.cons_append, List.nil_append, List.append_nil, List.set_cons_succ, List.set_cons_zero, List.getElem?_cons_zero, List.getElem?_cons_succ, Nat.reduceAdd, Nat.reduceSub, Nat.zero_add, Nat.reduceEqDiff, if_true, ite_true, ite_false, eq_self, ite_self, size_eq, and_self, Nat.zero_le, Nat.reduceLeDiff, decide_true, eN, List.isEmpty_cons, Bool.not_false, e1, e2, e3, e4, c2, decide_false, q1]
  · obtain ⟨k, M', q⟩ := fin .no ns n sd hn s0 s1
    refine ⟨k, M', ?_, q.2⟩
    have q1 := q.1
    simp only [gTake, mTake, mVar_go, varK_ok, mC_go, opK2_ok, opK2_exc, opK_ok, opK_exc, mOp_go, mNil_go, consK2_ok, consK2_exc, consK_ok, consK_exc, mCons_go, tupK_ok, tupK_exc, mTup_go, lstK_ok, lstK_exc, mLst_go, ownK_ok, ownK_ok1, ownK_ok2, ownK_exc, mOwn_go, tsK_ok, tsK_exc, mTest_go, andK_ok, andK_ok1, andK_exc, mAnd_go, orK_ok, orK_ok1, orK_exc, mOr_go, notK_ok, notK_exc, mNot_go, mbK_ok, mbK_exc, mB_go, ifeK_ok, ifeK_ok1, ifeK_exc, mIfE_go, mYes_go, mNext_go, seqK_nx, seqK_rt, seqK_bk, seqK_ct, seqK_ex, mSeq_go, ifK_ok, ifK_ok1, ifK_exc, mIfS_go, retK_ok, retK_exc, mRet_go, mRetN_go, dropK_ok, dropK_exc, mDrop_go, mBreak_go, mCont_go, putK_some, asgK_ok, asgK_exc, mAsg_go, mgName_go, mgNil_go, gsK_some, mgCons_go, mgTup_go, parK_ok, parK_exc, mPar_go, setK3_exc, set5_ok, set4_ok, setK3_ok, setK2_ok, setK2_exc, setK_ok, setK_exc, mSetIx_go, popK_ok, popK_exc, mPopAt_go, forGo_nil, forK2_some, forK3_nx, forK3_ct, forK3_bk, forK3_rt, forK3_ex, forK_ok, forK_exc, mFor_go, lcE_ok, lcE_exc, lcK_ok, lcK_exc, mLc_go, wipe_nil, wipe_cons, lcGo_nil, lcK4_ok, lcK3_t, lcK3_f, lcK2_some, rng1K_ok, rng1K_exc, mRng1_go, itK_ok, itK_ok1, itK_ok2, itK_exc, mIAny_go, zipK_ok, zipK_exc, mZip_go, callK_ok, callK_exc, mCall_go, kcK2_ok, kcK2_exc, kcK_ok, kcK_exc, mCallK_go, cbK_ok, cbK_exc, mCB_go, f1_go, chK4_ok, chK4_exc, chK3_ok, chK3_ok1, chK3_exc, chK2_ok, chK2_exc, chK_ok, chK_exc, mChain_go, mNoPart_go, partK_ok, partK_exc, mPart_go, slK3_ok, slK3_exc, slK2_ok, slK2_exc, slK_ok, slK_exc, mSl_go, fSl_str, fSl_lst, fSl_tup, fSl_scr, m1K2_ok, m1K2_exc, m1K_ok, m1K_exc, mM1_go, fLt_int, fLe_int, fGt_int, fGe_int, fSub_int, fAdd_int, fPop_go, pop2_ok, ixL_ok, ixO_ok, fIx_goL, fIx_goT, fIx_goO, atI_0, ixN_1_0, ixN_2_0, ixN_3_0, ixN_4_0, ixN_5_0, ixN_6_0, atI_1, ixN_2_1, ixN_3_1, ixN_4_1, ixN_5_1, ixN_6_1, atI_2, ixN_3_2, ixN_4_2, ixN_5_2, ixN_6_2, atI_3, ixN_4_3, ixN_5_3, ixN_6_3, atI_4, ixN_5_4, ixN_6_4, atI_5, ixN_6_5, atI_6, atI_7, atI_8, atI_9, atI_10, atI_11, atI_12, fLen_lst, fLen_tup, fInt1_int, fEqA_int, fEqA_str, fEqA_bl, fNeA_int, fNeA_str, isi_non_bool, isi_bl_bool, isi_int_bool, isi_str_bool, isi_lst_bool, isi_tup_bool, isi_non_int, isi_bl_int, isi_int_int, isi_str_int, isi_lst_int, isi_tup_int, isi_non_str, isi_bl_str, isi_int_str, isi_str_str, isi_lst_str, isi_tup_str, isi_non_list, isi_bl_list, isi_int_list, isi_str_list, isi_lst_list, isi_tup_list, isi_non_tuple, isi_bl_tuple, isi_int_tuple, isi_str_tuple, isi_lst_tuple, isi_tup_tuple, isi_non_dict, isi_bl_dict, isi_int_dict, isi_str_dict, isi_lst_dict, isi_tup_dict, isN_non, isN_bl, isN_int, isN_str, isN_lst, isN_tup, body_eq, bodyK_nx, bodyK_rt, bodyK_ex, rho0, List.map_cons, List.map_nil, List.length_cons, List.length_nil, List.replicate_succ, List.replicate_zero, List.cons_append, List.nil_append, List.append_nil, List.set_cons_succ, List.set_cons_zero, List.getElem?_cons_zero, List.getElem?_cons_succ, Nat.reduceAdd, Nat.reduceSub, Nat.zero_add, Nat.reduceEqDiff, if_true, ite_true, ite_false, eq_self, ite_self, size_eq, and_self, Nat.zero_le, Nat.reduceLeDiff, decide_false, c, q1]
theorem cut_all {α : Type} {xs : List α} {k : Nat} (h : xs.length ≤ k) : cutL xs none (some (k : Int)) = xs := by
  unfold cutL
  rw [HT.sIx_nat, HT.sIx_none, List.drop_zero, Nat.sub_zero, Nat.min_eq_right h, List.take_length]
theorem bag_ok {ns : List Int} (h : ns.length ≤ 63) : ∃ M', gBag [.scr ns] [] = .ok (.obj 1) M' ∧ BagR M' [] := by
  have e1 : ∀ (i : Nat) (M : Mem), fMul (.int 37) (.int (i : Int)) M = .ok (.int (37 * (i : Int))) M := fun i M => fMul_int (by omega)
  have ec : cutL ns none (some 63) = ns := cut_all h
  have el : lcGo [.val (.scr ns), .no] (mgName 1) mYes (mCB (f1 fInt1) (mCons (mVar 1) mNil)) (ns.map D.int) [] = .ok ((ns.map D.int).map id) [] := lc_pure id _ fun d hd => by
    obtain ⟨i, hi, rfl⟩ := List.mem_map.mp hd
    exact ⟨_, rfl, rfl⟩
  have hl : ns.length ≤ 16777216 := by omega
  refine ⟨.lst (ns.map D.int) :: .lst [.obj 0, .int 0, .int (5787 + 37 * (ns.length : Int))] :: [], ?_, ns, 0, _, rfl, by omega, by omega, by omega⟩
  simp only [gBag, mBag, mVar_go, varK_ok, mC_go, opK2_ok, opK2_exc, opK_ok, opK_exc, mOp_go, mNil_go, consK2_ok, consK2_exc, consK_ok, consK_exc, mCons_go, tupK_ok, tupK_exc, mTup_go, lstK_ok, lstK_exc, mLst_go, ownK_ok, ownK_ok1, ownK_ok2, ownK_exc, mOwn_go, tsK_ok, tsK_exc, mTest_go, andK_ok, andK_ok1, andK_exc, mAnd_go, orK_ok, orK_ok1, orK_exc, mOr_go, notK_ok, notK_exc, mNot_go, mbK_ok, mbK_exc, mB_go, ifeK_ok, ifeK_ok1, ifeK_exc, mIfE_go, mYes_go, mNext_go, seqK_nx, seqK_rt, seqK_bk, seqK_ct, seqK_ex, mSeq_go, ifK_ok, ifK_ok1, ifK_exc, mIfS_go, retK_ok, retK_exc, mRet_go, mRetN_go, dropK_ok, dropK_exc, mDrop_go, mBreak_go, mCont_go, putK_some, asgK_ok, asgK_exc, mAsg_go, mgName_go, mgNil_go, gsK_some, mgCons_go, mgTup_go, parK_ok, parK_exc, mPar_go, setK3_exc, set5_ok, set4_ok, setK3_ok, setK2_ok, setK2_exc, setK_ok, setK_exc, mSetIx_go, popK_ok, popK_exc, mPopAt_go, forGo_nil, forK2_some, forK3_nx, forK3_ct, forK3_bk, forK3_rt, forK3_ex, forK_ok, forK_exc, mFor_go, lcE_ok, lcE_exc, lcK_ok, lcK_exc, mLc_go, wipe_nil, wipe_cons, lcGo_nil, lcK4_ok, lcK3_t, lcK3_f, lcK2_some, rng1K_ok, rng1K_exc, mRng1_go, itK_ok, itK_ok1, itK_ok2, itK_exc, mIAny_go, zipK_ok, zipK_exc, mZip_go, callK_ok, callK_exc, mCall_go, kcK2_ok, kcK2_exc, kcK_ok, kcK_exc, mCallK_go, cbK_ok, cbK_exc, mCB_go, f1_go, chK4_ok, chK4_exc, chK3_ok, chK3_ok1, chK3_exc, chK2_ok, chK2_exc, chK_ok, chK_exc, mChain_go, mNoPart_go, partK_ok, partK_exc, mPart_go, slK3_ok, slK3_exc, slK2_ok, slK2_exc, slK_ok, slK_exc, mSl_go, fSl_str, fSl_lst, fSl_tup, fSl_scr, m1K2_ok, m1K2_exc, m1K_ok, m1K_exc, mM1_go, fLt_int, fLe_int, fGt_int, fGe_int, fSub_int, fAdd_int, fPop_go, pop2_ok, ixL_ok, ixO_ok, fIx_goL, fIx_goT, fIx_goO, atI_0, ixN_1_0, ixN_2_0, ixN_3_0, ixN_4_0, ixN_5_0, ixN_6_0, atI_1, ixN_2_1, ixN_3_1, ixN_4_1, ixN_5_1, ixN_6_1, atI_2, ixN_3_2, ixN_4_2, ixN_5_2, ixN_6_2, atI_3, ixN_4_3, ixN_5_3, ixN_6_3, atI_4, ixN_5_4, ixN_6_4, atI_5, ixN_6_5, atI_6, atI_7, atI_8, atI_9, atI_10, atI_11, atI_12, fLen_lst, fLen_tup, fInt1_int, fEqA_int, fEqA_str, fEqA_bl, fNeA_int, fNeA_str, isi_non_bool, isi_bl_bool, isi_int_bool, isi_str_bool, isi_lst_bool, isi_tup_bool, isi_non_int, isi_bl_int, isi_int_int, isi_str_int, isi_lst_int, isi_tup_int, isi_non_str, isi_bl_str, isi_int_str, isi_str_str, isi_lst_str, isi_tup_str, isi_non_list, isi_bl_list, isi_int_list, isi_str_list, isi_lst_list, isi_tup_list, isi_non_tuple, isi_bl_tuple, isi_int_tuple, isi_str_tuple, isi_lst_tuple, isi_tup_tuple, isi_non_dict, isi_bl_dict, isi_int_dict, isi_str_dict, isi_lst_dict, isi_tup_dict, isN_non, isN_bl, isN_int, isN_str, isN_lst, isN_tup, body_eq, bodyK_nx, bodyK_rt, bodyK_ex, rho0, List.map_cons, List.map_nil, List.length_cons, List.length_nil, List.replicate_succ, List.replicate_zero, List.cons_append, List.nil_append, List.append_nil, List.set_cons_succ, List.set_cons_zero, List.getElem?_cons_zero, List.getElem?_cons_succ, Nat.reduceAdd, Nat.reduceSub, Nat.zero_add, Nat.reduceEqDiff, if_true, ite_true, ite_false, eq_self, ite_self, size_eq, and_self, Nat.zero_le, Nat.reduceLeDiff, ec, List.length_map, hl, el, List.map_id, e1]
theorem of_str {M rest : Mem} {z : Str} (h : BagR M rest) (h0 : 0 < z.length) (h1 : z.length ≤ 16777216) : ∃ (c : Nat) (M' : Mem), gOf [.obj 1, .str z] M = .ok (.str ⟨#[c]⟩) M' ∧ c ∈ z.cps.toList ∧ BagR M' rest := by
  obtain ⟨k, M', e, k0, k1, hB⟩ := take_ok (m := (z.length : Int)) h (by omega) (by omega)
  have hz : k.toNat < z.cps.toList.length := by
    have : z.cps.toList.length = z.length := by simp [Str.length]
    omega
  obtain ⟨c, hc⟩ : ∃ c, z.cps.toList[k.toNat]? = some c := ⟨_, List.getElem?_eq_getElem hz⟩
  have e2 := atI_at hc
  rw [Int.toNat_of_nonneg k0] at e2
  have e3 : ∀ M, fIx (.str z) (.int k) M = .ok (.str ⟨#[c]⟩) M := fun M => fIx_str h1 e2
  have e4 : ∀ M, fLen (.str z) M = .ok (.int z.length) M := fun M => fLen_str h1
  refine ⟨c, M', ?_, List.mem_of_getElem? hc, hB⟩
  simp only [gOf, mOf, mVar_go, varK_ok, mC_go, opK2_ok, opK2_exc, opK_ok, opK_exc, mOp_go, mNil_go, consK2_ok, consK2_exc, consK_ok, consK_exc, mCons_go, tupK_ok, tupK_exc, mTup_go, lstK_ok, lstK_exc, mLst_go, ownK_ok, ownK_ok1, ownK_ok2, ownK_exc, mOwn_go, tsK_ok, tsK_exc, mTest_go, andK_ok, andK_ok1, andK_exc, mAnd_go, orK_ok, orK_ok1, orK_exc, mOr_go, notK_ok, notK_exc, mNot_go, mbK_ok, mbK_exc, mB_go, ifeK_ok, ifeK_ok1, ifeK_exc, mIfE_go, mYes_go, mNext_go, seqK_nx, seqK_rt, seqK_bk, seqK_ct, seqK_ex, mSeq_go, ifK_ok, ifK_ok1, ifK_exc, mIfS_go, retK_ok, retK_exc, mRet_go, mRetN_go, dropK_ok, dropK_exc, mDrop_go, mBreak_go, mCont_go, putK_some, asgK_ok, asgK_exc, mAsg_go, mgName_go, mgNil_go, gsK_some, mgCons_go, mgTup_go, parK_ok, parK_exc, mPar_go, setK3_exc, set5_ok, set4_ok, setK3_ok, setK2_ok, setK2_exc, setK_ok, setK_exc, mSetIx_go, popK_ok, popK_exc, mPopAt_go, forGo_nil, forK2_some, forK3_nx, forK3_ct, forK3_bk, forK3_rt, forK3_ex, forK_ok, forK_exc, mFor_go, lcE_ok, lcE_exc, lcK_ok, lcK_exc, mLc_go, wipe_nil, wipe_cons, lcGo_nil, lcK4_ok, lcK3_t, lcK3_f, lcK2_some, rng1K_ok, rng1K_exc, mRng1_go, itK_ok, itK_ok1, itK_ok2, itK_exc, mIAny_go, zipK_ok, zipK_exc, mZip_go, callK_ok, callK_exc, mCall_go, kcK2_ok, kcK2_exc, kcK_ok, kcK_exc, mCallK_go, cbK_ok, cbK_exc, mCB_go, f1_go, chK4_ok, chK4_exc, chK3_ok, chK3_ok1, chK3_exc, chK2_ok, chK2_exc, chK_ok, chK_exc, mChain_go, mNoPart_go, partK_ok, partK_exc, mPart_go, slK3_ok, slK3_exc, slK2_ok, slK2_exc, slK_ok, slK_exc, mSl_go, fSl_str, fSl_lst, fSl_tup, fSl_scr, m1K2_ok, m1K2_exc, m1K_ok, m1K_exc, mM1_go, fLt_int, fLe_int, fGt_int, fGe_int, fSub_int, fAdd_int, fPop_go, pop2_ok, ixL_ok, ixO_ok, fIx_goL, fIx_goT, fIx_goO, atI_0, ixN_1_0, ixN_2_0, ixN_3_0, ixN_4_0, ixN_5_0, ixN_6_0, atI_1, ixN_2_1, ixN_3_1, ixN_4_1, ixN_5_1, ixN_6_1, atI_2, ixN_3_2, ixN_4_2, ixN_5_2, ixN_6_2, atI_3, ixN_4_3, ixN_5_3, ixN_6_3, atI_4, ixN_5_4, ixN_6_4, atI_5, ixN_6_5, atI_6, atI_7, atI_8, atI_9, atI_10, atI_11, atI_12, fLen_lst, fLen_tup, fInt1_int, fEqA_int, fEqA_str, fEqA_bl, fNeA_int, fNeA_str, isi_non_bool, isi_bl_bool, isi_int_bool, isi_str_bool, isi_lst_bool, isi_tup_bool, isi_non_int, isi_bl_int, isi_int_int, isi_str_int, isi_lst_int, isi_tup_int, isi_non_str, isi_bl_str, isi_int_str, isi_str_str, isi_lst_str, isi_tup_str, isi_non_list, isi_bl_list, isi_int_list, isi_str_list, isi_lst_list, isi_tup_list, isi_non_tuple, isi_bl_tuple, isi_int_tuple, isi_str_tuple, isi_lst_tuple, isi_tup_tuple, isi_non_dict, isi_bl_dict, isi_int_dict, isi_str_dict, isi_lst_dict, isi_tup_dict, isN_non, isN_bl, isN_int, isN_str, isN_lst, isN_tup, body_eq, bodyK_nx, bodyK_rt, bodyK_ex, rho0, List.map_cons, List.map_nil, List.length_cons, List.length_nil, List.replicate_succ, List.replicate_zero, List.cons_append, List.nil_append, List.append_nil, List.set_cons_succ, List.set_cons_zero, List.getElem?_cons_zero, List.getElem?_cons_succ, Nat.reduceAdd, Nat.reduceSub, Nat.zero_add, Nat.reduceEqDiff, if_true, ite_true, ite_false, eq_self, ite_self, size_eq, and_self, Nat.zero_le, Nat.reduceLeDiff, e4, e, e3]
theorem of_lst {M rest : Mem} {ds : List D} (h : BagR M rest) (h0 : 0 < ds.length) (h1 : ds.length ≤ 16777216) : ∃ (d : D) (M' : Mem), gOf [.obj 1, .lst ds] M = .ok d M' ∧ d ∈ ds ∧ BagR M' rest := by
  obtain ⟨k, M', e, k0, k1, hB⟩ := take_ok (m := (ds.length : Int)) h (by omega) (by omega)
  have hz : k.toNat < ds.length := by omega
  obtain ⟨c, hc⟩ : ∃ c, ds[k.toNat]? = some c := ⟨_, List.getElem?_eq_getElem hz⟩
  have e2 := atI_at hc
  rw [Int.toNat_of_nonneg k0] at e2
  refine ⟨c, M', ?_, List.mem_of_getElem? hc, hB⟩
  simp only [gOf, mOf, mVar_go, varK_ok, mC_go, opK2_ok, opK2_exc, opK_ok, opK_exc, mOp_go, mNil_go, consK2_ok, consK2_exc, consK_ok, consK_exc, mCons_go, tupK_ok, tupK_exc, mTup_go, lstK_ok, lstK_exc, mLst_go, ownK_ok, ownK_ok1, ownK_ok2, ownK_exc, mOwn_go, tsK_ok, tsK_exc, mTest_go, andK_ok, andK_ok1, andK_exc, mAnd_go, orK_ok, orK_ok1, orK_exc, mOr_go, notK_ok, notK_exc, mNot_go, mbK_ok, mbK_exc, mB_go, ifeK_ok, ifeK_ok1, ifeK_exc, mIfE_go, mYes_go, mNext_go, seqK_nx, seqK_rt, seqK_bk, seqK_ct, seqK_ex, mSeq_go, ifK_ok, ifK_ok1, ifK_exc, mIfS_go, retK_ok, retK_exc, mRet_go, mRetN_go, dropK_ok, dropK_exc, mDrop_go, mBreak_go, mCont_go, putK_some, asgK_ok, asgK_exc, mAsg_go, mgName_go, mgNil_go, gsK_some, mgCons_go, mgTup_go, parK_ok, parK_exc, mPar_go, setK3_exc, set5_ok, set4_ok, setK3_ok, setK2_ok, setK2_exc, setK_ok, setK_exc, mSetIx_go, popK_ok, popK_exc, mPopAt_go, forGo_nil, forK2_some, forK3_nx, forK3_ct, forK3_bk, forK3_rt, forK3_ex, forK_ok, forK_exc, mFor_go, lcE_ok, lcE_exc, lcK_ok, lcK_exc, mLc_go, wipe_nil, wipe_cons, lcGo_nil, lcK4_ok, lcK3_t, lcK3_f, lcK2_some, rng1K_ok, rng1K_exc, mRng1_go, itK_ok, itK_ok1, itK_ok2, itK_exc, mIAny_go, zipK_ok, zipK_exc, mZip_go, callK_ok, callK_exc, mCall_go, kcK2_ok, kcK2_exc, kcK_ok, kcK_exc, mCallK_go, cbK_ok, cbK_exc, mCB_go, f1_go, chK4_ok, chK4_exc, chK3_ok, chK3_ok1, chK3_exc, chK2_ok, chK2_exc, chK_ok, chK_exc, mChain_go, mNoPart_go, partK_ok, partK_exc, mPart_go, slK3_ok, slK3_exc, slK2_ok, slK2_exc, slK_ok, slK_exc, mSl_go, fSl_str, fSl_lst, fSl_tup, fSl_scr, m1K2_ok, m1K2_exc, m1K_ok, m1K_exc, mM1_go, fLt_int, fLe_int, fGt_int, fGe_int, fSub_int, fAdd_int, fPop_go, pop2_ok, ixL_ok, ixO_ok, fIx_goL, fIx_goT, fIx_goO, atI_0, ixN_1_0, ixN_2_0, ixN_3_0, ixN_4_0, ixN_5_0, ixN_6_0, atI_1, ixN_2_1, ixN_3_1, ixN_4_1, ixN_5_1, ixN_6_1, atI_2, ixN_3_2, ixN_4_2, ixN_5_2, ixN_6_2, atI_3, ixN_4_3, ixN_5_3, ixN_6_3, atI_4, ixN_5_4, ixN_6_4, atI_5, ixN_6_5, atI_6, atI_7, atI_8, atI_9, atI_10, atI_11, atI_12, fLen_lst, fLen_tup, fInt1_int, fEqA_int, fEqA_str, fEqA_bl, fNeA_int, fNeA_str, isi_non_bool, isi_bl_bool, isi_int_bool, isi_str_bool, isi_lst_bool, isi_tup_bool, isi_non_int, isi_bl_int, isi_int_int, isi_str_int, isi_lst_int, isi_tup_int, isi_non_str, isi_bl_str, isi_int_str, isi_str_str, isi_lst_str, isi_tup_str, isi_non_list, isi_bl_list, isi_int_list, isi_str_list, isi_lst_list, isi_tup_list, isi_non_tuple, isi_bl_tuple, isi_int_tuple, isi_str_tuple, isi_lst_tuple, isi_tup_tuple, isi_non_dict, isi_bl_dict, isi_int_dict, isi_str_dict, isi_lst_dict, isi_tup_dict, isN_non, isN_bl, isN_int, isN_str, isN_lst, isN_tup, body_eq, bodyK_nx, bodyK_rt, bodyK_ex, rho0, List.map_cons, List.map_nil, List.length_cons, List.length_nil, List.replicate_succ, List.replicate_zero, List.cons_append, List.nil_append, List.append_nil, List.set_cons_succ, List.set_cons_zero, List.getElem?_cons_zero, List.getElem?_cons_succ, Nat.reduceAdd, Nat.reduceSub, Nat.zero_add, Nat.reduceEqDiff, if_true, ite_true, ite_false, eq_self, ite_self, size_eq, and_self, Nat.zero_le, Nat.reduceLeDiff, e, e2]
/-- plain values no deeper than n -/
inductive PlainD : Nat → D → Prop where
  | non {n} : PlainD (n + 1) .non
  | bl {n b} : PlainD (n + 1) (.bl b)
  | int {n i} : PlainD (n + 1) (.int i)
  | str {n z} : PlainD (n + 1) (.str z)
  | lst {n ds} : ds.length ≤ 16777216 → (∀ d, d ∈ ds → PlainD n d) → PlainD (n + 1) (.lst ds)
theorem bls_true : ∀ n : Nat, bls ((List.replicate n (D.bl true))) = some (List.replicate n true)
  | 0 => rfl
  | n + 1 => by
    show (bls (List.replicate n (D.bl true))).map (true :: ·) = _
    rw [bls_true n]
    rfl
theorem fAll_true {n : Nat} {M : Mem} : fAll (.lst (List.replicate n (.bl true))) M = .ok (.bl true) M := by
  show (match bls (List.replicate n (D.bl true)) with
    | some bs => Res.ok (D.bl (bs.all id)) M
    | none => .bad) = _
  rw [bls_true]
  simp
theorem same_refl : ∀ (n : Nat) (d : D) (M : Mem), PlainD n d → gSame n [d, d] M = .ok (.bl true) M
  | 0, d, M, h => nomatch h
  | n + 1, d, M, h => by
    cases h with
    | non => simp only [gSame, mSame, mVar_go, varK_ok, mC_go, opK2_ok, opK2_exc, opK_ok, opK_exc, mOp_go, mNil_go, consK2_ok, consK2_exc, consK_ok, consK_exc, mCons_go, tupK_ok, tupK_exc, mTup_go, lstK_ok, lstK_exc, mLst_go, ownK_ok, ownK_ok1, ownK_ok2, ownK_exc, mOwn_go, tsK_ok, tsK_exc, mTest_go, andK_ok, andK_ok1, andK_exc, mAnd_go, orK_ok, orK_ok1, orK_exc, mOr_go, notK_ok, notK_exc, mNot_go, mbK_ok, mbK_exc, mB_go, ifeK_ok, ifeK_ok1, ifeK_exc, mIfE_go, mYes_go, mNext_go, seqK_nx, seqK_rt, seqK_bk, seqK_ct, seqK_ex, mSeq_go, ifK_ok, ifK_ok1, ifK_exc, mIfS_go, retK_ok, retK_exc, mRet_go, mRetN_go, dropK_ok, dropK_exc, mDrop_go, mBreak_go, mCont_go, putK_some, asgK_ok, asgK_exc, mAsg_go, mgName_go, mgNil_go, gsK_some, mgCons_go, mgTup_go, parK_ok, parK_exc, mPar_go, setK3_exc, set5_ok, set4_ok, setK3_ok, setK2_ok, setK2_exc, setK_ok, setK_exc, mSetIx_go, popK_ok, popK_exc, mPopAt_go, forGo_nil, forK2_some, forK3_nx, forK3_ct, forK3_bk, forK3_rt, forK3_ex, forK_ok, forK_exc, mFor_go, lcE_ok, lcE_exc, lcK_ok, lcK_exc, mLc_go, wipe_nil, wipe_cons, lcGo_nil, lcK4_ok, lcK3_t, lcK3_f, lcK2_some, rng1K_ok, rng1K_exc, mRng1_go, itK_ok, itK_ok1, itK_ok2, itK_exc, mIAny_go, zipK_ok, zipK_exc, mZip_go, callK_ok, callK_exc, mCall_go, kcK2_ok, kcK2_exc, kcK_ok, kcK_exc, mCallK_go, cbK_ok, cbK_exc, mCB_go, f1_go, chK4_ok, chK4_exc, chK3_ok, chK3_ok1, chK3_exc, chK2_ok, chK2_exc, chK_ok, chK_exc, mChain_go, mNoPart_go, partK_ok, partK_exc, mPart_go, slK3_ok, slK3_exc, slK2_ok, slK2_exc, slK_ok, slK_exc, mSl_go, fSl_str, fSl_lst, fSl_tup, fSl_scr, m1K2_ok, m1K2_exc, m1K_ok, m1K_exc, mM1_go, fLt_int, fLe_int, fGt_int, fGe_int, fSub_int, fAdd_int, fPop_go, pop2_ok, ixL_ok, ixO_ok, fIx_goL, fIx_goT, fIx_goO, atI_0, ixN_1_0, ixN_2_0, ixN_3_0, ixN_4_0, ixN_5_0, ixN_6_0, atI_1, ixN_2_1, ixN_3_1, ixN_4_1, ixN_5_1, ixN_6_1, atI_2, ixN_3_2, ixN_4_2, ixN_5_2, ixN_6_2, atI_3, ixN_4_3, ixN_5_3, ixN_6_3, atI_4, ixN_5_4, ixN_6_4, atI_5, ixN_6_5, atI_6, atI_7, atI_8, atI_9, atI_10, atI_11, atI_12, fLen_lst, fLen_tup, fInt1_int, fEqA_int, fEqA_str, fEqA_bl, fNeA_int, fNeA_str, isi_non_bool, isi_bl_bool, isi_int_bool, isi_str_bool, isi_lst_bool, isi_tup_bool, isi_non_int, isi_bl_int, isi_int_int, isi_str_int, isi_lst_int, isi_tup_int, isi_non_str, isi_bl_str, isi_int_str, isi_str_str, isi_lst_str, isi_tup_str, isi_non_list, isi_bl_list, isi_int_list, isi_str_list, isi_lst_list, isi_tup_list, isi_non_tuple, isi_bl_tuple, isi_int_tuple, isi_str_tuple, isi_lst_tuple, isi_tup_tuple, isi_non_dict, isi_bl_dict, isi_int_dict, isi_str_dict, isi_lst_dict, isi_tup_dict, isN_non, isN_bl, isN_int, isN_str, isN_lst, isN_tup, body_eq, bodyK_nx, bodyK_rt, bodyK_ex, rho0, List.map_cons, List.map_nil, List.length_cons, List.length_nil, List.replicate_succ, List.replicate_zero, List.cons_append, List.nil_append, List.append_nil, List.set_cons_succ, List.set_cons_zero, List.getElem?_cons_zero, List.getElem?_cons_succ, Nat.reduceAdd, Nat.reduceSub, Nat.zero_add, Nat.reduceEqDiff, if_true, ite_true, ite_false, eq_self, ite_self, size_eq, and_self, Nat.zero_le, Nat.reduceLeDiff, Bool.not_false]
    | bl => simp only [gSame, mSame, mVar_go, varK_ok, mC_go, opK2_ok, opK2_exc, opK_ok, opK_exc, mOp_go, mNil_go, consK2_ok, consK2_exc, consK_ok, consK_exc, mCons_go, tupK_ok, tupK_exc, mTup_go, lstK_ok, lstK_exc, mLst_go, ownK_ok, ownK_ok1, ownK_ok2, ownK_exc, mOwn_go, tsK_ok, tsK_exc, mTest_go, andK_ok, andK_ok1, andK_exc, mAnd_go, orK_ok, orK_ok1, orK_exc, mOr_go, notK_ok, notK_exc, mNot_go, mbK_ok, mbK_exc, mB_go, ifeK_ok, ifeK_ok1, ifeK_exc, mIfE_go, mYes_go, mNext_go, seqK_nx, seqK_rt, seqK_bk, seqK_ct, seqK_ex, mSeq_go, ifK_ok, ifK_ok1, ifK_exc, mIfS_go, retK_ok, retK_exc, mRet_go, mRetN_go, dropK_ok, dropK_exc, mDrop_go, mBreak_go, mCont_go, putK_some, asgK_ok, asgK_exc, mAsg_go, mgName_go, mgNil_go, gsK_some, mgCons_go, mgTup_go, parK_ok, parK_exc, mPar_go, setK3_exc, set5_ok, set4_ok, setK3_ok, setK2_ok, setK2_exc, setK_ok, setK_exc, mSetIx_go, popK_ok, popK_exc, mPopAt_go, forGo_nil, forK2_some, forK3_nx, forK3_ct, forK3_bk, forK3_rt, forK3_ex, forK_ok, forK_exc, mFor_go, lcE_ok, lcE_exc, lcK_ok, lcK_exc, mLc_go, wipe_nil, wipe_cons, lcGo_nil, lcK4_ok, lcK3_t, lcK3_f, lcK2_some, rng1K_ok, rng1K_exc, mRng1_go, itK_ok, itK_ok1, itK_ok2, itK_exc, mIAny_go, zipK_ok, zipK_exc, mZip_go, callK_ok, callK_exc, mCall_go, kcK2_ok, kcK2_exc, kcK_ok, kcK_exc, mCallK_go, cbK_ok, cbK_exc, mCB_go, f1_go, chK4_ok, chK4_exc, chK3_ok, chK3_ok1, chK3_exc, chK2_ok, chK2_exc, chK_ok, chK_exc, mChain_go, mNoPart_go, partK_ok, partK_exc, mPart_go, slK3_ok, slK3_exc, slK2_ok, slK2_exc, slK_ok, slK_exc, mSl_go, fSl_str, fSl_lst, fSl_tup, fSl_scr, m1K2_ok, m1K2_exc, m1K_ok, m1K_exc, mM1_go, fLt_int, fLe_int, fGt_int, fGe_int, fSub_int, fAdd_int, fPop_go, pop2_ok, ixL_ok, ixO_ok, fIx_goL, fIx_goT, fIx_goO, atI_0, ixN_1_0, ixN_2_0, ixN_3_0, ixN_4_0, ixN_5_0, ixN_6_0, atI_1, ixN_2_1, ixN_3_1, ixN_4_1, ixN_5_1, ixN_6_1, atI_2, ixN_3_2, ixN_4_2, ixN_5_2, ixN_6_2, atI_3, ixN_4_3, ixN_5_3, ixN_6_3, atI_4, ixN_5_4, ixN_6_4, atI_5, ixN_6_5, atI_6, atI_7, atI_8, atI_9, atI_10, atI_11, atI_12, fLen_lst, fLen_tup, fInt1_int, fEqA_int, fEqA_str, fEqA_bl, fNeA_int, fNeA_str, isi_non_bool, isi_bl_bool, isi_int_bool, isi_str_bool, isi_lst_bool, isi_tup_bool, isi_non_int, isi_bl_int, isi_int_int, isi_str_int, isi_lst_int, isi_tup_int, isi_non_str, isi_bl_str, isi_int_str, isi_str_str, isi_lst_str, isi_tup_str, isi_non_list, isi_bl_list, isi_int_list, isi_str_list, isi_lst_list, isi_tup_list, isi_non_tuple, isi_bl_tuple, isi_int_tuple, isi_str_tuple, isi_lst_tuple, isi_tup_tuple, isi_non_dict, isi_bl_dict, isi_int_dict, isi_str_dict, isi_lst_dict, isi_tup_dict, isN_non, isN_bl, isN_int, isN_str, isN_lst, isN_tup, body_eq, bodyK_nx, bodyK_rt, bodyK_ex, rho0, List.map_cons, List.map_nil, List.length_cons, List.length_nil, List.replicate_succ, List.replicate_zero, List.cons_append, List.nil_append, List.append_nil, List.set_cons_succ, List.set_cons_zero, List.getElem?_cons_zero, List.getElem?_cons_succ, Nat.reduceAdd, Nat.reduceSub, Nat.zero_add, Nat.reduceEqDiff, if_true, ite_true, ite_false, eq_self, ite_self, size_eq, and_self, Nat.zero_le, Nat.reduceLeDiff, Bool.not_false, decide_true]
    | int => simp only [gSame, mSame, mVar_go, varK_ok, mC_go, opK2_ok, opK2_exc, opK_ok, opK_exc, mOp_go, mNil_go, consK2_ok, consK2_exc, consK_ok, consK_exc, mCons_go, tupK_ok, tupK_exc, mTup_go, lstK_ok, lstK_exc, mLst_go, ownK_ok, ownK_ok1, ownK_ok2, ownK_exc, mOwn_go, tsK_ok, tsK_exc, mTest_go, andK_ok, andK_ok1, andK_exc, mAnd_go, orK_ok, orK_ok1, orK_exc, mOr_go, notK_ok, notK_exc, mNot_go, mbK_ok, mbK_exc, mB_go, ifeK_ok, ifeK_ok1, ifeK_exc, mIfE_go, mYes_go, mNext_go, seqK_nx, seqK_rt, seqK_bk, seqK_ct, seqK_ex, mSeq_go, ifK_ok, ifK_ok1, ifK_exc, mIfS_go, retK_ok, retK_exc, mRet_go, mRetN_go, dropK_ok, dropK_exc, mDrop_go, mBreak_go, mCont_go, putK_some, asgK_ok, asgK_exc, mAsg_go, mgName_go, mgNil_go, gsK_some, mgCons_go, mgTup_go, parK_ok, parK_exc, mPar_go, setK3_exc, set5_ok, set4_ok, setK3_ok, setK2_ok, setK2_exc, setK_ok, setK_exc, mSetIx_go, popK_ok, popK_exc, mPopAt_go, forGo_nil, forK2_some, forK3_nx, forK3_ct, forK3_bk, forK3_rt, forK3_ex, forK_ok, forK_exc, mFor_go, lcE_ok, lcE_exc, lcK_ok, lcK_exc, mLc_go, wipe_nil, wipe_cons, lcGo_nil, lcK4_ok, lcK3_t, lcK3_f, lcK2_some, rng1K_ok, rng1K_exc, mRng1_go, itK_ok, itK_ok1, itK_ok2, itK_exc, mIAny_go, zipK_ok, zipK_exc, mZip_go, callK_ok, callK_exc, mCall_go, kcK2_ok, kcK2_exc, kcK_ok, kcK_exc, mCallK_go, cbK_ok, cbK_exc, mCB_go, f1_go, chK4_ok, chK4_exc, chK3_ok, chK3_ok1, chK3_exc, chK2_ok, chK2_exc, chK_ok, chK_exc, mChain_go, mNoPart_go, partK_ok, partK_exc, mPart_go, slK3_ok, slK3_exc, slK2_ok, slK2_exc, slK_ok, slK_exc, mSl_go, fSl_str, fSl_lst, fSl_tup, fSl_scr, m1K2_ok, m1K2_exc, m1K_ok, m1K_exc, mM1_go, fLt_int, fLe_int, fGt_int, fGe_int, fSub_int, fAdd_int, fPop_go, pop2_ok, ixL_ok, ixO_ok, fIx_goL, fIx_goT, fIx_goO, atI_0, ixN_1_0, ixN_2_0, ixN_3_0, ixN_4_0, ixN_5_0, ixN_6_0, atI_1, ixN_2_1, ixN_3_1, ixN_4_1, ixN_5_1, ixN_6_1, atI_2, ixN_3_2, ixN_4_2, ixN_5_2, ixN_6_2, atI_3, ixN_4_3, ixN_5_3, ixN_6_3, atI_4, ixN_5_4, ixN_6_4, atI_5, ixN_6_5, atI_6, atI_7, atI_8, atI_9, atI_10, atI_11, atI_12, fLen_lst, fLen_tup, fInt1_int, fEqA_int, fEqA_str, fEqA_bl, fNeA_int, fNeA_str, isi_non_bool, isi_bl_bool, isi_int_bool, isi_str_bool, isi_lst_bool, isi_tup_bool, isi_non_int, isi_bl_int, isi_int_int, isi_str_int, isi_lst_int, isi_tup_int, isi_non_str, isi_bl_str, isi_int_str, isi_str_str, isi_lst_str, isi_tup_str, isi_non_list, isi_bl_list, isi_int_list, isi_str_list, isi_lst_list, isi_tup_list, isi_non_tuple, isi_bl_tuple, isi_int_tuple, isi_str_tuple, isi_lst_tuple, isi_tup_tuple, isi_non_dict, isi_bl_dict, isi_int_dict, isi_str_dict, isi_lst_dict, isi_tup_dict, isN_non, isN_bl, isN_int, isN_str, isN_lst, isN_tup, body_eq, bodyK_nx, bodyK_rt, bodyK_ex, rho0, List.map_cons, List.map_nil, List.length_cons, List.length_nil, List.replicate_succ, List.replicate_zero, List.cons_append, List.nil_append, List.append_nil, List.set_cons_succ, List.set_cons_zero, List.getElem?_cons_zero, List.getElem?_cons_succ, Nat.reduceAdd, Nat.reduceSub, Nat.zero_add, Nat.reduceEqDiff, if_true, ite_true, ite_false, eq_self, ite_self, size_eq, and_self, Nat.zero_le, Nat.reduceLeDiff, Bool.not_false, decide_true]
    | str => simp only [gSame, mSame, mVar_go, varK_ok, mC_go, opK2_ok, opK2_exc, opK_ok, opK_exc, mOp_go, mNil_go, consK2_ok, consK2_exc, consK_ok, consK_exc, mCons_go, tupK_ok, tupK_exc, mTup_go, lstK_ok, lstK_exc, mLst_go, ownK_ok, ownK_ok1, ownK_ok2, ownK_exc, mOwn_go, tsK_ok, tsK_exc, mTest_go, andK_ok, andK_ok1, andK_exc, mAnd_go, orK_ok, orK_ok1, orK_exc, mOr_go, notK_ok, notK_exc, mNot_go, mbK_ok, mbK_exc, mB_go, ifeK_ok, ifeK_ok1, ifeK_exc, mIfE_go, mYes_go, mNext_go, seqK_nx, seqK_rt, seqK_bk, seqK_ct, seqK_ex, mSeq_go, ifK_ok, ifK_ok1, ifK_exc, mIfS_go, retK_ok, retK_exc, mRet_go, mRetN_go, dropK_ok, dropK_exc, mDrop_go, mBreak_go, mCont_go, putK_some, asgK_ok, asgK_exc, mAsg_go, mgName_go, mgNil_go, gsK_some, mgCons_go, mgTup_go, parK_ok, parK_exc, mPar_go, setK3_exc, set5_ok, set4_ok, setK3_ok, setK2_ok, setK2_exc, setK_ok, setK_exc, mSetIx_go, popK_ok, popK_exc, mPopAt_go, forGo_nil, forK2_some, forK3_nx, forK3_ct, forK3_bk, forK3_rt, forK3_ex, forK_ok, forK_exc, mFor_go, lcE_ok, lcE_exc, lcK_ok, lcK_exc, mLc_go, wipe_nil, wipe_cons, lcGo_nil, lcK4_ok, lcK3_t, lcK3_f, lcK2_some, rng1K_ok, rng1K_exc, mRng1_go, itK_ok, itK_ok1, itK_ok2, itK_exc, mIAny_go, zipK_ok, zipK_exc, mZip_go, callK_ok, callK_exc, mCall_go, kcK2_ok, kcK2_exc, kcK_ok, kcK_exc, mCallK_go, cbK_ok, cbK_exc, mCB_go, f1_go, chK4_ok, chK4_exc, chK3_ok, chK3_ok1, chK3_exc, chK2_ok, chK2_exc, chK_ok, chK_exc, mChain_go, mNoPart_go, partK_ok, partK_exc, mPart_go, slK3_ok, slK3_exc, slK2_ok, slK2_exc, slK_ok, slK_exc, mSl_go, fSl_str, fSl_lst, fSl_tup, fSl_scr, m1K2_ok, m1K2_exc, m1K_ok, m1K_exc, mM1_go, fLt_int, fLe_int, fGt_int, fGe_int, fSub_int, fAdd_int, fPop_go, pop2_ok, ixL_ok, ixO_ok, fIx_goL, fIx_goT, fIx_goO, atI_0, ixN_1_0, ixN_2_0, ixN_3_0, ixN_4_0, ixN_5_0, ixN_6_0, atI_1, ixN_2_1, ixN_3_1, ixN_4_1, ixN_5_1, ixN_6_1, atI_2, ixN_3_2, ixN_4_2, ixN_5_2, ixN_6_2, atI_3, ixN_4_3, ixN_5_3, ixN_6_3, atI_4, ixN_5_4, ixN_6_4, atI_5, ixN_6_5, atI_6, atI_7, atI_8, atI_9, atI_10, atI_11, atI_12, fLen_lst, fLen_tup, fInt1_int, fEqA_int, fEqA_str, fEqA_bl, fNeA_int, fNeA_str, isi_non_bool, isi_bl_bool, isi_int_bool, isi_str_bool, isi_lst_bool, isi_tup_bool, isi_non_int, isi_bl_int, isi_int_int, isi_str_int, isi_lst_int, isi_tup_int, isi_non_str, isi_bl_str, isi_int_str, isi_str_str, isi_lst_str, isi_tup_str, isi_non_list, isi_bl_list, isi_int_list, isi_str_list, isi_lst_list, isi_tup_list, isi_non_tuple, isi_bl_tuple, isi_int_tuple, isi_str_tuple, isi_lst_tuple, isi_tup_tuple, isi_non_dict, isi_bl_dict, isi_int_dict, isi_str_dict, isi_lst_dict, isi_tup_dict, isN_non, isN_bl, isN_int, isN_str, isN_lst, isN_tup, body_eq, bodyK_nx, bodyK_rt, bodyK_ex, rho0, List.map_cons, List.map_nil, List.length_cons, List.length_nil, List.replicate_succ, List.replicate_zero, List.cons_append, List.nil_append, List.append_nil, List.set_cons_succ, List.set_cons_zero, List.getElem?_cons_zero, List.getElem?_cons_succ, Nat.reduceAdd, Nat.reduceSub, Nat.zero_add, Nat.reduceEqDiff, if_true, ite_true, ite_false, eq_self, ite_self, size_eq, and_self, Nat.zero_le, Nat.reduceLeDiff, Bool.not_false, decide_true]
    | @lst _ ds hl h =>
      have e : ∀ ρ : Rho, lcGo (.val (.lst ds) :: .val (.lst ds) :: .no :: .no :: ρ) (mgTup 2 (mgCons (mgName 2) (mgCons (mgName 3) mgNil))) mYes (mCall 2 (gSame n) [] (mCons (mVar 2) (mCons (mVar 3) mNil))) ((ds.zip ds).map fun p => D.tup [p.1, p.2]) M = .ok (List.replicate ds.length (.bl true)) M := fun ρ => by
        rw [lc_pure (fun _ => .bl true)]
        · rw [List.map_const']
          simp
        · intro d hd
          obtain ⟨⟨a, b⟩, hp, rfl⟩ := List.mem_map.mp hd
          have hab : a = b ∧ a ∈ ds := by
            rw [List.zip_eq_zipWith, List.zipWith_self] at hp
            obtain ⟨x, hx, e⟩ := List.mem_map.mp hp
            cases e
            exact ⟨rfl, hx⟩
          obtain ⟨rfl, ha⟩ := hab
          refine ⟨_, rfl, ?_⟩
          have ih := same_refl n a M (h a ha)
          simp only [mVar_go, varK_ok, mC_go, opK2_ok, opK2_exc, opK_ok, opK_exc, mOp_go, mNil_go, consK2_ok, consK2_exc, consK_ok, consK_exc, mCons_go, tupK_ok, tupK_exc, mTup_go, lstK_ok, lstK_exc, mLst_go, ownK_ok, ownK_ok1, ownK_ok2, ownK_exc, mOwn_go, tsK_ok, tsK_exc, mTest_go, andK_ok, andK_ok1, andK_exc, mAnd_go, orK_ok, orK_ok1, orK_exc, mOr_go, notK_ok, notK_exc, mNot_go, mbK_ok, mbK_exc, mB_go, ifeK_ok, ifeK_ok1, ifeK_exc, mIfE_go, mYes_go, mNext_go, seqK_nx, seqK_rt, seqK_bk, seqK_ct, seqK_ex, mSeq_go, ifK_ok, ifK_ok1, ifK_exc, mIfS_go, retK_ok, retK_exc, mRet_go, mRetN_go, dropK_ok, dropK_exc, mDrop_go, mBreak_go, mCont_go, putK_some, asgK_ok, asgK_exc, mAsg_go, mgName_go, mgNil_go, gsK_some, mgCons_go, mgTup_go, parK_ok, parK_exc, mPar_go, setK3_exc, set5_ok, set4_ok, setK3_ok, setK2_ok, setK2_exc, setK_ok, setK_exc, mSetIx_go, popK_ok, popK_exc, mPopAt_go, forGo_nil, forK2_some, forK3_nx, forK3_ct, forK3_bk, forK3_rt, forK3_ex, forK_ok, forK_exc, mFor_go, lcE_ok, lcE_exc, lcK_ok, lcK_exc, mLc_go, wipe_nil, wipe_cons, lcGo_nil, lcK4_ok, lcK3_t, lcK3_f, lcK2_some, rng1K_ok, rng1K_exc, mRng1_go, itK_ok, itK_ok1, itK_ok2, itK_exc, mIAny_go, zipK_ok, zipK_exc, mZip_go, callK_ok, callK_exc, mCall_go, kcK2_ok, kcK2_exc, kcK_ok, kcK_exc, mCallK_go, cbK_ok, cbK_exc, mCB_go, f1_go, chK4_ok, chK4_exc, chK3_ok, chK3_ok1, chK3_exc, chK2_ok, chK2_exc, chK_ok, chK_exc, mChain_go, mNoPart_go, partK_ok, partK_exc, mPart_go, slK3_ok, slK3_exc, slK2_ok, slK2_exc, slK_ok, slK_exc, mSl_go, fSl_str, fSl_lst, fSl_tup, fSl_scr, m1K2_ok, m1K2_exc, m1K_ok, m1K_exc, mM1_go, fLt_int, fLe_int, fGt_int, fGe_int, fSub_int, fAdd_int, fPop_go, pop2_ok, ixL_ok, ixO_ok, fIx_goL, fIx_goT, fIx_goO, atI_0, ixN_1_0, ixN_2_0, ixN_3_0, ixN_4_0, ixN_5_0, ixN_6_0, atI_1, ixN_2_1, ixN_3_1, ixN_4_1, ixN_5_1, ixN_6_1, atI_2, ixN_3_2, ixN_4_2, ixN_5_2, ixN_6_2, atI_3, ixN_4_3, ixN_5_3, ixN_6_3, atI_4, ixN_5_4, ixN_6_4, atI_5, ixN_6_5, atI_6, atI_7, atI_8, atI_9, atI_10, atI_11, atI_12, fLen_lst, fLen_tup, fInt1_int, fEqA_int, fEqA_str, fEqA_bl, fNeA_int, fNeA_str, isi_non_bool, isi_bl_bool, isi_int_bool, isi_str_bool, isi_lst_bool, isi_tup_bool, isi_non_int, isi_bl_int, isi_int_int, isi_str_int, isi_lst_int, isi_tup_int, isi_non_str, isi_bl_str, isi_int_str, isi_str_str, isi_lst_str, isi_tup_str, isi_non_list, isi_bl_list, isi_int_list, isi_str_list, isi_lst_list, isi_tup_list, isi_non_tuple, isi_bl_tuple, isi_int_tuple, isi_str_tuple, isi_lst_tuple, isi_tup_tuple, isi_non_dict, isi_bl_dict, isi_int_dict, isi_str_dict, isi_lst_dict, isi_tup_dict, isN_non, isN_bl, isN_int, isN_str, isN_lst, isN_tup, body_eq, bodyK_nx, bodyK_rt, bodyK_ex, rho0, List.map_cons, List.map_nil, List.length_cons, List.length_nil, List.replicate_succ, List.replicate_zero, List.cons_append, List.nil_append, List.append_nil, List.set_cons_succ, List.set_cons_zero, List.getElem?_cons_zero, List.getElem?_cons_succ, Nat.reduceAdd, Nat.reduceSub, Nat.zero_add, Nat.reduceEqDiff, if_true, ite_true, ite_false, eq_self, ite_self, size_eq, and_self, Nat.zero_le, Nat.reduceLeDiff, ih]
      have hz : (ds.zip ds).length ≤ 16777216 := by simp; omega
      simp only [gSame, mSame, mVar_go, varK_ok, mC_go, opK2_ok, opK2_exc, opK_ok, opK_exc, mOp_go, mNil_go, consK2_ok, consK2_exc, consK_ok, consK_exc, mCons_go, tupK_ok, tupK_exc, mTup_go, lstK_ok, lstK_exc, mLst_go, ownK_ok, ownK_ok1, ownK_ok2, ownK_exc, mOwn_go, tsK_ok, tsK_exc, mTest_go, andK_ok, andK_ok1, andK_exc, mAnd_go, orK_ok, orK_ok1, orK_exc, mOr_go, notK_ok, notK_exc, mNot_go, mbK_ok, mbK_exc, mB_go, ifeK_ok, ifeK_ok1, ifeK_exc, mIfE_go, mYes_go, mNext_go, seqK_nx, seqK_rt, seqK_bk, seqK_ct, seqK_ex, mSeq_go, ifK_ok, ifK_ok1, ifK_exc, mIfS_go, retK_ok, retK_exc, mRet_go, mRetN_go, dropK_ok, dropK_exc, mDrop_go, mBreak_go, mCont_go, putK_some, asgK_ok, asgK_exc, mAsg_go, mgName_go, mgNil_go, gsK_some, mgCons_go, mgTup_go, parK_ok, parK_exc, mPar_go, setK3_exc, set5_ok, set4_ok, setK3_ok, setK2_ok, setK2_exc, setK_ok, setK_exc, mSetIx_go, popK_ok, popK_exc, mPopAt_go, forGo_nil, forK2_some, forK3_nx, forK3_ct, forK3_bk, forK3_rt, forK3_ex, forK_ok, forK_exc, mFor_go, lcE_ok, lcE_exc, lcK_ok, lcK_exc, mLc_go, wipe_nil, wipe_cons, lcGo_nil, lcK4_ok, lcK3_t, lcK3_f, lcK2_some, rng1K_ok, rng1K_exc, mRng1_go, itK_ok, itK_ok1, itK_ok2, itK_exc, mIAny_go, zipK_ok, zipK_exc, mZip_go, callK_ok, callK_exc, mCall_go, kcK2_ok, kcK2_exc, kcK_ok, kcK_exc, mCallK_go, cbK_ok, cbK_exc, mCB_go, f1_go, chK4_ok, chK4_exc, chK3_ok, chK3_ok1, chK3_exc, chK2_ok, chK2_exc, chK_ok, chK_exc, mChain_go, mNoPart_go, partK_ok, partK_exc, mPart_go, slK3_ok, slK3_exc, slK2_ok, slK2_exc, slK_ok, slK_exc, mSl_go, fSl_str, fSl_lst, fSl_tup, fSl_scr, m1K2_ok, m1K2_exc, m1K_ok, m1K_exc, mM1_go, fLt_int, fLe_int, fGt_int, fGe_int, fSub_int, fAdd_int, fPop_go, pop2_ok, ixL_ok, ixO_ok, fIx_goL, fIx_goT, fIx_goO, atI_0, ixN_1_0, ixN_2_0, ixN_3_0, ixN_4_0, ixN_5_0, ixN_6_0, atI_1, ixN_2_1, ixN_3_1, ixN_4_1, ixN_5_1, ixN_6_1, atI_2, ixN_3_2, ixN_4_2, ixN_5_2, ixN_6_2, atI_3, ixN_4_3, ixN_5_3, ixN_6_3, atI_4, ixN_5_4, ixN_6_4, atI_5, ixN_6_5, atI_6, atI_7, atI_8, atI_9, atI_10, atI_11, atI_12, fLen_lst, fLen_tup, fInt1_int, fEqA_int, fEqA_str, fEqA_bl, fNeA_int, fNeA_str, isi_non_bool, isi_bl_bool, isi_int_bool, isi_str_bool, isi_lst_bool, isi_tup_bool, isi_non_int, isi_bl_int, isi_int_int, isi_str_int, isi_lst_int, isi_tup_int, isi_non_str, isi_bl_str, isi_int_str, isi_str_str, isi_lst_str, isi_tup_str, isi_non_list, isi_bl_list, isi_int_list, isi_str_list, isi_lst_list, isi_tup_list, isi_non_tuple, isi_bl_tuple, isi_int_tuple, isi_str_tuple, isi_lst_tuple, isi_tup_tuple, isi_non_dict, isi_bl_dict, isi_int_dict, isi_str_dict, isi_lst_dict, isi_tup_dict, isN_non, isN_bl, isN_int, isN_str, isN_lst, isN_tup, body_eq, bodyK_nx, bodyK_rt, bodyK_ex, rho0, List.map_cons, List.map_nil, List.length_cons, List.length_nil, List.replicate_succ, List.replicate_zero, List.cons_append, List.nil_append, List.append_nil, List.set_cons_succ, List.set_cons_zero, List.getElem?_cons_zero, List.getElem?_cons_succ, Nat.reduceAdd, Nat.reduceSub, Nat.zero_add, Nat.reduceEqDiff, if_true, ite_true, ite_false, eq_self, ite_self, size_eq, and_self, Nat.zero_le, Nat.reduceLeDiff, Bool.not_false, Bool.not_true, decide_true, List.length_map, hz, e, fAll_true]
end DL

set_option maxHeartbeats 4000000
/-! PL, part c: loops, texts of signs, names -/
namespace DL
open PySem PySem.Spec PyProof.Rows L2
/-- a statement goes on, and its end is so -/
def NxI (r : Res Fl) (I : Rho → Mem → Prop) : Prop := match r with
  | .ok (.nx ρ) M => I ρ M
  | _ => False
theorem nxI_ok {ρ : Rho} {M : Mem} {I : Rho → Mem → Prop} : NxI (.ok (.nx ρ) M) I = I ρ M := rfl
theorem NxI.ex {r : Res Fl} {I : Rho → Mem → Prop} (h : NxI r I) : ∃ ρ M, r = .ok (.nx ρ) M ∧ I ρ M := by
  unfold NxI at h
  split at h
  · exact ⟨_, _, rfl, h⟩
  · exact h.elim
/-- one round of a loop -/
def Round (mg : SG) (mb : SS) (d : D) (ρ : Rho) (M : Mem) (I : Rho → Mem → Prop) : Prop := ∃ ρ1, mg d ρ = some ρ1 ∧ NxI (mb ρ1 M) I
theorem for_inv {mg : SG} {mb : SS} (I : Rho → Mem → Prop) : ∀ (ds : List D) (ρ : Rho) (M : Mem), I ρ M → (∀ d, d ∈ ds → ∀ ρ M, I ρ M → Round mg mb d ρ M I) → ∃ (ρ2 : Rho) (M2 : Mem), forGo mg mb ds ρ M = .ok (.nx ρ2) M2 ∧ I ρ2 M2
  | [], ρ, M, i, _ => ⟨ρ, M, rfl, i⟩
  | d :: r, ρ, M, i, h => by
    obtain ⟨ρ1, h1, h2⟩ := h d (List.mem_cons_self ..) ρ M i
    obtain ⟨ρ2, M2, h2, i2⟩ := h2.ex
    obtain ⟨ρ3, M3, e, i3⟩ := for_inv I r ρ2 M2 i2 fun d hd => h d (List.mem_cons_of_mem _ hd)
    refine ⟨ρ3, M3, ?_, i3⟩
    rw [forGo_cons, h1, forK2_some, h2, forK3_nx, e]
theorem seq_for {mg : SG} {mb n : SS} {ds : List D} {ρ : Rho} {M : Mem} {d : D} (I : Rho → Mem → Prop) (h0 : I ρ M) (h : ∀ d, d ∈ ds → ∀ ρ M, I ρ M → Round mg mb d ρ M I)
    (hr : ∀ ρ M, I ρ M → ∃ M', bodyK (n ρ M) = .ok d M') : ∃ M', bodyK (seqK n (forGo mg mb ds ρ M)) = .ok d M' := by
  obtain ⟨ρ2, M2, e, i⟩ := for_inv I ds ρ M h0 h
  rw [e]
  exact hr ρ2 M2 i
/-- a text by its signs -/
def sg (cs : List Nat) : Str := ⟨cs.toArray⟩
theorem sg_cps (cs : List Nat) : (sg cs).cps.toList = cs := rfl
theorem sg_len (cs : List Nat) : (sg cs).length = cs.length := by simp [sg, Str.length]
theorem sg_self (z : Str) : z = sg z.cps.toList := rfl
theorem sg_app (a b : List Nat) : sg a ++ sg b = sg (a ++ b) := by
  show Str.append (sg a) (sg b) = sg (a ++ b)
  unfold Str.append sg
  simp
theorem sg_inj {a b : List Nat} (h : sg a = sg b) : a = b := by
  have := congrArg (fun z : Str => z.cps.toList) h
  exact this
theorem cut_lo (cs : List Nat) (k : Nat) (h : k ≤ cs.length) : cutS (sg cs) none (some (k : Int)) = sg (cs.take k) := by
  unfold cutS
  rw [sg_len, HT.sIx_nat, HT.sIx_none, sg_cps, List.drop_zero, Nat.sub_zero, Nat.min_eq_left h]
  rfl
theorem cut_hi (cs : List Nat) (k : Nat) (h : k ≤ cs.length) : cutS (sg cs) (some (k : Int)) none = sg (cs.drop k) := by
  unfold cutS
  rw [sg_len, HT.sIx_nat, HT.sIx_none, sg_cps, Nat.min_eq_left h, List.take_of_length_le (by simp)]
  rfl
theorem strs_sg : ∀ cs : List Nat, strsD (cs.map fun c => D.str (sg [c])) = some (cs.map fun c => sg [c])
  | [] => rfl
  | c :: r => by
    show (strsD (r.map fun c => D.str (sg [c]))).map (sg [c] :: ·) = _
    rw [strs_sg r]
    rfl
theorem join_sg : ∀ cs : List Nat, Str.join (sg []) (cs.map fun c => sg [c]) = sg cs
  | [] => rfl
  | [c] => rfl
  | c :: d :: r => by
    show sg [c] ++ sg [] ++ Str.join (sg []) ((d :: r).map fun c => sg [c]) = _
    rw [join_sg (d :: r), sg_app, sg_app]
    rfl
theorem sum_one : ∀ cs : List Nat, ((cs.map fun c => sg [c]).map Str.length).sum = cs.length
  | [] => rfl
  | c :: r => by
    show (sg [c]).length + ((r.map fun c => sg [c]).map (·.length)).sum = _
    rw [sum_one r, sg_len]
    simp [Nat.add_comm]
theorem fJoin_sg {cs : List Nat} {M : Mem} (h : cs.length ≤ 16777216) : fJoin (sg []) (.lst (cs.map fun c => .str (sg [c]))) M = .ok (.str (sg cs)) M := by
  show (match strsD (cs.map fun c => D.str (sg [c])) with
    | some ys => if (ys.map Str.length).sum + ys.length * (sg []).length ≤ 16777216 then Res.ok (D.str (Txt.join (sg []) ys)) M else .bad
    | none => .bad) = _
  rw [strs_sg]
  show (if ((cs.map fun c => sg [c]).map Str.length).sum + (cs.map fun c => sg [c]).length * (sg []).length ≤ 16777216 then Res.ok (D.str (Txt.join (sg []) (cs.map fun c => sg [c]))) M else .bad) = _
  rw [sum_one, sg_len, List.length_nil, Nat.mul_zero, Nat.add_zero, if_pos h, TL.join_eq, join_sg]
theorem signs_sg (cs : List Nat) : signsD (sg cs) = cs.map fun c => D.str (sg [c]) := rfl
theorem fIn_sg {c : Nat} {z : List Nat} {M : Mem} : fIn false (.str (sg [c])) (.str (sg z)) M = .ok (.bl (decide (c ∈ z))) M := rfl
theorem bls_map : ∀ bs : List Bool, bls (bs.map D.bl) = some bs
  | [] => rfl
  | b :: r => by
    show (bls (r.map D.bl)).map (b :: ·) = _
    rw [bls_map r]
    rfl
theorem fAll_map {bs : List Bool} {M : Mem} : fAll (.lst (bs.map D.bl)) M = .ok (.bl (bs.all id)) M := by
  show (match bls (bs.map D.bl) with
    | some bs => Res.ok (D.bl (bs.all id)) M
    | none => .bad) = _
  rw [bls_map]
theorem fAny_map {bs : List Bool} {M : Mem} : fAny (.lst (bs.map D.bl)) M = .ok (.bl (bs.any id)) M := by
  show (match bls (bs.map D.bl) with
    | some bs => Res.ok (D.bl (bs.any id)) M
    | none => .bad) = _
  rw [bls_map]
/-- drawn signs, joined -/
theorem all2_signs {ds ys : List D} {P : Nat → Prop} (h : All2 (fun _ y => ∃ c, y = .str (sg [c]) ∧ P c) ds ys) : ∃ cs : List Nat, ys = cs.map (fun c => .str (sg [c])) ∧ cs.length = ds.length ∧ ∀ c, c ∈ cs → P c := by
  induction h with
  | nil => exact ⟨[], rfl, rfl, fun _ h => nomatch h⟩
  | cons p _ ih =>
    obtain ⟨c, rfl, pc⟩ := p
    obtain ⟨cs, rfl, l, h⟩ := ih
    refine ⟨c :: cs, rfl, by simp [l], fun x hx => ?_⟩
    cases hx with
    | head => exact pc
    | tail _ hx => exact h x hx
theorem ints_len (lo : Int) (n : Nat) : (intsD lo n).length = n := by simp [intsD]
theorem nat_of {k : Int} (h : 0 ≤ k) : ∃ n : Nat, k = (n : Int) := ⟨k.toNat, by omega⟩
end DL

set_option maxHeartbeats 4000000
/-! the text's defs over data (printed by gen.py) -/
namespace G
open PySem PySem.Spec PyProof.Rows L2 DL
def m_law_bag : SS :=
  (mRet (mOwn (mLst (mCons (mOwn (mLc (mIAny (mSl (mVar 0) mNoPart (mPart (mC (.int 63))))) (mgName 1) mYes (mCB (f1 fInt1) (mCons (mVar 1) mNil)) [1])) (mCons (mC (.int 0)) (mCons (mOp fAdd (mC (.int 5787)) (mOp fMul (mC (.int 37)) (mCB (f1 fLen) (mCons (mSl (mVar 0) mNoPart (mPart (mC (.int 63)))) mNil)))) mNil))))))
def g_law_bag : GF := mBody 2 m_law_bag
def m_law_take : SS :=
  (mSeq (mIfS (mAnd (mTest (mOp fEqA (mOp fIx (mVar 0) (mC (.int 1))) (mC (.int 0)))) (mTest (mOp fNeA (mOp fIx (mVar 0) (mC (.int 0))) (mLst mNil)))) (mSeq (mAsg (mPopAt (mOp fIx (mVar 0) (mC (.int 0))) 0) (mgName 2))
    (mIfS (mTest (mOp fGe (mVar 2) (mOp fPow (mC (.int 10)) (mC (.int 18))))) (mSetIx (mVar 2) (mVar 0) (mC (.int 1))) (mSetIx (mOp fMod (mCB (f1 fInt1) (mCons (mOp fAdd (mOp fAdd (mOp fMul (mOp fIx (mVar 0) (mC (.int 2))) (mC (.int 40014))) (mOp fMul (mVar 2) (mC (.int 7919)))) (mC (.int 31))) mNil)) (mC (.int 2147483563))) (mVar 0) (mC (.int 2))))) mNext)
    (mSeq (mIfS (mTest (mOp fGt (mOp fIx (mVar 0) (mC (.int 1))) (mC (.int 0)))) (mSeq (mAsg (mOp fMod (mCB (f1 fInt1) (mCons (mOp fIx (mVar 0) (mC (.int 1))) mNil)) (mVar 1)) (mgName 3))
    (mSeq (mSetIx (mOp fFdiv (mCB (f1 fInt1) (mCons (mOp fIx (mVar 0) (mC (.int 1))) mNil)) (mVar 1)) (mVar 0) (mC (.int 1)))
    (mRet (mVar 3)))) mNext)
    (mSeq (mAsg (mOp fMod (mCB (f1 fInt1) (mCons (mOp fMul (mOp fIx (mVar 0) (mC (.int 2))) (mOp fIx (mVar 0) (mC (.int 2)))) mNil)) (mC (.int 2147483563))) (mgName 4))
    (mSeq (mSetIx (mOp fMod (mCB (f1 fInt1) (mCons (mOp fAdd (mOp fAdd (mOp fMul (mVar 4) (mC (.int 3041))) (mOp fMul (mOp fIx (mVar 0) (mC (.int 2))) (mC (.int 40692)))) (mC (.int 12211))) mNil)) (mC (.int 2147483563))) (mVar 0) (mC (.int 2)))
    (mRet (mOp fMod (mCB (f1 fInt1) (mCons (mOp fAdd (mOp fFdiv (mOp fIx (mVar 0) (mC (.int 2))) (mC (.int 37))) (mOp fMul (mOp fMod (mCB (f1 fInt1) (mCons (mOp fIx (mVar 0) (mC (.int 2))) mNil)) (mC (.int 5003))) (mC (.int 89)))) mNil)) (mVar 1)))))))
def g_law_take : GF := mBody 5 m_law_take
def m_law_of : SS :=
  (mRet (mOp fIx (mVar 1) (mCall 2 g_law_take [] (mCons (mVar 0) (mCons (mCB (f1 fLen) (mCons (mVar 1) mNil)) mNil)))))
def g_law_of : GF := mBody 2 m_law_of
def m_law_names : SS :=
  (mSeq (mAsg (mC (.str "abcdefghijklmnopqrstuvwxyz")) (mgName 2))
    (mSeq (mAsg (mM1 fJoin (mC (.str "")) (mLc (mRng1 (mCons (mCall 2 g_law_take [] (mCons (mVar 0) (mCons (mC (.int 4)) mNil))) mNil)) (mgName 6) mYes (mCall 2 g_law_of [] (mCons (mVar 0) (mCons (mVar 2) mNil))) [6])) (mgName 3))
    (mSeq (mAsg (mTup (mCons (mCall 2 g_law_take [] (mCons (mVar 0) (mCons (mOp fAdd (mCB (f1 fLen) (mCons (mVar 3) mNil)) (mC (.int 1))) mNil))) (mCons (mCall 2 g_law_take [] (mCons (mVar 0) (mCons (mC (.int 26)) mNil))) mNil))) (mgTup 2 (mgCons (mgName 4) (mgCons (mgName 5) mgNil))))
    (mRet (mLc (mRng1 (mCons (mVar 1) mNil)) (mgName 6) mYes (mOp fAdd (mOp fAdd (mSl (mVar 3) mNoPart (mPart (mVar 4))) (mOp fIx (mVar 2) (mOp fMod (mCB (f1 fInt1) (mCons (mOp fAdd (mVar 5) (mOp fMul (mC (.int 3)) (mVar 6))) mNil)) (mC (.int 26))))) (mSl (mVar 3) (mPart (mVar 4)) mNoPart)) [6])))))
def g_law_names : GF := mBody 7 m_law_names
def m_law_same (rec : GF) : SS :=
  (mSeq (mIfS (mOr (mTest (mOp (fIsN false) (mVar 1) (mC .non))) (mTest (mOp (fIsN false) (mVar 0) (mC .non)))) (mRet (mB (mAnd (mTest (mOp (fIsN false) (mVar 1) (mC .non))) (mTest (mOp (fIsN false) (mVar 0) (mC .non)))))) mNext)
    (mSeq (mIfS (mOr (mTest (mCB fIsi (mCons (mVar 1) (mCons (mC (.ty "bool")) mNil)))) (mTest (mCB fIsi (mCons (mVar 0) (mCons (mC (.ty "bool")) mNil))))) (mRet (mB (mAnd (mTest (mCB fIsi (mCons (mVar 1) (mCons (mC (.ty "bool")) mNil)))) (mTest (mB (mAnd (mTest (mCB fIsi (mCons (mVar 0) (mCons (mC (.ty "bool")) mNil)))) (mTest (mOp fEqA (mVar 1) (mVar 0))))))))) mNext)
    (mSeq (mIfS (mTest (mCB fIsi (mCons (mVar 1) (mCons (mC (.ty "int")) mNil)))) (mRet (mB (mAnd (mTest (mCB fIsi (mCons (mVar 0) (mCons (mC (.ty "int")) mNil)))) (mTest (mOp fEqA (mVar 1) (mVar 0)))))) mNext)
    (mSeq (mIfS (mTest (mCB fIsi (mCons (mVar 1) (mCons (mC (.ty "str")) mNil)))) (mRet (mB (mAnd (mTest (mCB fIsi (mCons (mVar 0) (mCons (mC (.ty "str")) mNil)))) (mTest (mOp fEqA (mVar 1) (mVar 0)))))) mNext)
    (mSeq (mIfS (mAnd (mTest (mCB fIsi (mCons (mVar 1) (mCons (mC (.ty "list")) mNil)))) (mNot (mTest (mCB fIsi (mCons (mVar 0) (mCons (mC (.ty "list")) mNil)))))) (mRet (mC (.bl false))) mNext)
    (mSeq (mIfS (mAnd (mTest (mCB fIsi (mCons (mVar 1) (mCons (mC (.ty "tuple")) mNil)))) (mNot (mTest (mCB fIsi (mCons (mVar 0) (mCons (mC (.ty "tuple")) mNil)))))) (mRet (mC (.bl false))) mNext)
    (mRet (mB (mAnd (mTest (mOp fEqA (mCB (f1 fLen) (mCons (mVar 0) mNil)) (mCB (f1 fLen) (mCons (mVar 1) mNil)))) (mTest (mCB (f1 fAll) (mCons (mLc (mZip (mCons (mVar 0) (mCons (mVar 1) mNil))) (mgTup 2 (mgCons (mgName 2) (mgCons (mgName 3) mgNil))) mYes (mCall 2 rec [] (mCons (mVar 2) (mCons (mVar 3) mNil))) [2, 3]) mNil))))))))))))
def g_law_same : Nat → GF
  | 0 => fun _ _ => .bad
  | n + 1 => mBody 4 (m_law_same (g_law_same n))
def m_is_name : SS :=
  (mSeq (mIfS (mOr (mNot (mTest (mCB fIsi (mCons (mVar 0) (mCons (mC (.ty "str")) mNil))))) (mNot (mTest (mChain fLe fLe (mC (.int 1)) (mCB (f1 fLen) (mCons (mVar 0) mNil)) (mC (.int 6)))))) (mRet (mC (.bl false))) mNext)
    (mRet (mCB (f1 fAll) (mCons (mLc (mIAny (mVar 0)) (mgName 1) mYes (mOp (fIn false) (mVar 1) (mC (.str "abcdefghijklmnopqrstuvwxyz"))) [1]) mNil))))
def g_is_name : GF := mBody 2 m_is_name
def m_law : SS :=
  (mSeq (mAsg (mCall 1 g_law_bag [] (mCons (mVar 0) mNil)) (mgName 1))
    (mSeq (mFor (mRng1 (mCons (mC (.int 4)) mNil)) (mgName 2) (mSeq (mAsg (mOp fAdd (mCall 2 g_law_names [] (mCons (mVar 1) (mCons (mC (.int 3)) mNil))) (mLst (mCons (mC (.str "a")) (mCons (mC (.str "zzzzzz")) (mCons (mC (.str "hard")) (mCons (mC (.str "source")) (mCons (mC (.str "voter")) mNil))))))) (mgName 3))
    (mSeq (mPar 4 5 (mCons (mCall 2 g_law_take [] (mCons (mVar 1) (mCons (mOp fAdd (mCB (f1 fLen) (mCons (mOp fIx (mVar 3) (mC (.int 0))) mNil)) (mC (.int 1))) mNil))) (mCons (mCall 2 g_law_of [] (mCons (mVar 1) (mCons (mLst (mCons (mC (.str "A")) (mCons (mC (.str "_")) (mCons (mC (.str "1")) (mCons (mC (.str " ")) (mCons (mC (.str "-")) (mCons (mC (.str "~")) (mCons (mC (.str "\n")) (mCons (mC (.str "Z")) (mCons (mC (.str ".")) mNil)))))))))) mNil))) mNil)))
    (mSeq (mAsg (mLst (mCons (mC (.str "")) (mCons (mOp fAdd (mOp fAdd (mSl (mOp fIx (mVar 3) (mC (.int 0))) mNoPart (mPart (mVar 4))) (mVar 5)) (mSl (mOp fIx (mVar 3) (mC (.int 0))) (mPart (mVar 4)) mNoPart)) (mCons (mOp fAdd (mOp fIx (mVar 3) (mC (.int 1))) (mC (.str "aaaaaa"))) (mCons (mC .non) (mCons (mC (.int 3)) (mCons (mC (.bl true)) (mCons (mTup (mCons (mC (.str "a")) mNil)) (mCons (mLst (mCons (mC (.str "a")) mNil)) (mCons (mTup mNil) mNil)))))))))) (mgName 6))
    (mSeq (mIfS (mNot (mTest (mCall 2 (g_law_same 8) [] (mCons (mLc (mIAny (mVar 3)) (mgName 7) mYes (mCall 1 g_is_name [] (mCons (mVar 7) mNil)) [7]) (mCons (mOp fMul (mLst (mCons (mC (.bl true)) mNil)) (mC (.int 8))) mNil))))) (mRet (mC (.bl false))) mNext)
    (mIfS (mNot (mTest (mCall 2 (g_law_same 8) [] (mCons (mLc (mIAny (mVar 6)) (mgName 7) mYes (mCallK 1 0 1 g_is_name (fun a b => a ++ b) mNil (mCons (mVar 7) mNil)) [7]) (mCons (mOp fMul (mLst (mCons (mC (.bl false)) mNil)) (mC (.int 9))) mNil))))) (mRet (mC (.bl false))) mNext))))))
    (mRet (mC (.bl true)))))
def g_law : GF := mBody 8 m_law
end G

set_option maxHeartbeats 4000000
/-! each def of the text keeps its promise (printed by gen.py) -/
namespace G
open PySem PySem.Spec PyProof.Rows L2 DL
def top (i : Nat) : Stmt := PySem.Challenge.pw_outvoted_k02_names.main.body.getD i (.Pass ⟨0, 0, 0, 0⟩)
def loose : List PySem.Str := (["__name__", "LETTERS", "MOST_LETTERS", "is_name", "_law_bag", "_law_take", "_law_of", "_law_same", "_law_names"] : List PySem.Str)
def fa : List He.Fa := ([.free "len", .free "int", .free "range", .free "isinstance", .free "bool", .free "str", .free "list", .free "tuple", .free "all", .free "zip", .int "MOST_LETTERS" 6, .str "LETTERS" "abcdefghijklmnopqrstuvwxyz", .glo "_law_bag", .glo "_law_take", .glo "_law_of", .glo "_law_names", .glo "_law_same", .glo "is_name", .glo "law"] : List He.Fa)
def fn : List He.DefD := ([⟨("_law_bag", none), "_law_bag", "_law_bag", defArgs (top 5), defBody (top 5), defScope (top 5), [], []⟩, ⟨("_law_take", none), "_law_take", "_law_take", defArgs (top 6), defBody (top 6), defScope (top 6), [], []⟩, ⟨("_law_of", none), "_law_of", "_law_of", defArgs (top 7), defBody (top 7), defScope (top 7), [], []⟩, ⟨("_law_names", none), "_law_names", "_law_names", defArgs (top 9), defBody (top 9), defScope (top 9), [], []⟩, ⟨("_law_same", none), "_law_same", "_law_same", defArgs (top 8), defBody (top 8), defScope (top 8), [], []⟩, ⟨("is_name", none), "is_name", "is_name", defArgs (top 3), defBody (top 3), defScope (top 3), [], []⟩, ⟨("law", none), "law", "law", defArgs (top 10), defBody (top 10), defScope (top 10), [], []⟩] : List He.DefD)
section
variable {P : Program} {w : World} {K : PySem.W.Frag} {mg : Str → Option Value} {base : Heap}
theorem sc_law_bag : FnScope ["_law_script", "_law_cell"] ["_law_script"] (defScope (top 5)) := ⟨rfl, rfl, rfl, by decide +kernel, rfl, by decide +kernel, by decide +kernel⟩
theorem bd_law_bag {fd : FuncData} (F : FunD K "_law_bag" "_law_bag" (defArgs (top 5)) (defBody (top 5)) (defScope (top 5)) [] [] (He.ga K "_law_bag") fd) : Binds K fd ["_law_script"] [] :=
  FunD.bindsN F fun _ _ _ _ _ _ us hl => match us, hl with | [_], _ => rfl
theorem ok_law_bag (T : Top fa fn K mg) : ∃ fd : FuncData, FunD K "_law_bag" "_law_bag" (defArgs (top 5)) (defBody (top 5)) (defScope (top 5)) [] [] (He.ga K "_law_bag") fd ∧ Good P w K mg base 1 "_law_bag" ["_law_script"] fd g_law_bag := by
  obtain ⟨fd, F0⟩ := T.def_ 0
  have F : FunD K "_law_bag" "_law_bag" (defArgs (top 5)) (defBody (top 5)) (defScope (top 5)) [] [] (He.ga K "_law_bag") fd := F0
  refine ⟨fd, F, F.ok (k := 0) sc_law_bag (fun vs H Q E h => spD_len h) (fun cdv A outer s H vs Q E hr h => ?_), T.glo 12, F.kp⟩
  apply Exists.intro
  apply And.intro
  · exact (pss_one (ps_ret (pe_lst (pa_cons (pe_lc (own := ([("_law_cell", 1)] : List (Str × Nat))) rfl sc_law_bag.nd (pi_anyK (K := K) rfl (pe_slice (slrK (K := K) rfl) (pv 0) po_none (po_some pe_int))) (blkOk_by (N := ["_law_script", "_law_cell"]) (sc := defScope (top 5)) (by decide +kernel)) (fun _ _ _ _ _ => (pg_name (i := 1) sc_law_bag.nd rfl (Or.inl rfl))) (fun _ _ _ _ _ => pts_nil) (fun _ _ _ _ _ => (pe_callTy call_int1 (by rfl) (T.free 1) (by decide +kernel) (pa_cons (pv 1) pa_nil)))) (pa_cons pe_int (pa_cons (pe_op (addK (K := K) rfl) pe_int (pe_op opr_mul pe_int (pe_callB (lenK (K := K) rfl) (by rfl) (T.free 0) PySem.boot_len (pa_cons (pe_slice (slrK (K := K) rfl) (pv 0) po_none (po_some pe_int)) pa_nil)))) pa_nil))))))
  · refine body_ok (N := ["_law_script", "_law_cell"]) (m := m_law_bag) ?_ h
    exact (snd_ret (snd_own (snd_lstF (snd_cons (snd_own (snd_lcF (vs := [1]) (sndi_any (snd_sl (snd_var 0) sndo_none (sndo_some (snd_int 63)))) (sndg_name 1) (by decide) snd_yes (snd_cb cb_int1 (snd_cons (snd_var 1) snd_nil)))) (snd_cons (snd_int 0) (snd_cons (snd_op ops_add (snd_int 5787) (snd_op ops_mul (snd_int 37) (snd_cb cb_len (snd_cons (snd_sl (snd_var 0) sndo_none (sndo_some (snd_int 63))) snd_nil)))) snd_nil))))))

theorem sc_law_take : FnScope ["_law_bag_here", "_law_many", "_law_cell", "_law_digit", "_law_square"] ["_law_bag_here", "_law_many"] (defScope (top 6)) := ⟨rfl, rfl, rfl, by decide +kernel, rfl, by decide +kernel, by decide +kernel⟩
theorem bd_law_take {fd : FuncData} (F : FunD K "_law_take" "_law_take" (defArgs (top 6)) (defBody (top 6)) (defScope (top 6)) [] [] (He.ga K "_law_take") fd) : Binds K fd ["_law_bag_here", "_law_many"] [] :=
  FunD.bindsN F fun _ _ _ _ _ _ us hl => match us, hl with | [_, _], _ => rfl
theorem ok_law_take (T : Top fa fn K mg) : ∃ fd : FuncData, FunD K "_law_take" "_law_take" (defArgs (top 6)) (defBody (top 6)) (defScope (top 6)) [] [] (He.ga K "_law_take") fd ∧ Good P w K mg base 1 "_law_take" ["_law_bag_here", "_law_many"] fd g_law_take := by
  obtain ⟨fd, F0⟩ := T.def_ 1
  have F : FunD K "_law_take" "_law_take" (defArgs (top 6)) (defBody (top 6)) (defScope (top 6)) [] [] (He.ga K "_law_take") fd := F0
  refine ⟨fd, F, F.ok (k := 0) sc_law_take (fun vs H Q E h => spD_len h) (fun cdv A outer s H vs Q E hr h => ?_), T.glo 13, F.kp⟩
  apply Exists.intro
  apply And.intro
  · exact (pss_cons (ps_if (PW.pt (pw_and (pt_cmpR (eqK (K := K) rfl hr.units) (pe_ix (ixK (K := K) rfl) (pv 0) pe_int (fun _ _ => rfl)) pe_int (nomark _)) (pw_and1 (pt_cmpR (neK (K := K) rfl hr.units) (pe_ix (ixK (K := K) rfl) (pv 0) pe_int (fun _ _ => rfl)) (pe_lst pa_nil) (nomark _))))) (pss_cons (ps_set (i := 2) sc_law_take.nd rfl (Or.inl rfl) (pe_bmK (K := K) rfl PySem.F.plainAttrs_list PySem.F.slot_list_pop PySem.F.type_list_pop mt_popAt (pe_ix (ixK (K := K) rfl) (pv 0) pe_int (fun _ _ => rfl)) (pa_cons pe_int pa_nil)))
    (pss_one (ps_if (pt_cmpR op_ge (pv 2) (pe_op op_pow pe_int pe_int) (nomark _)) (pss_one (ps_asg (pv 2) (pg_sub (pv 0) pe_int set_list))) (pss_one (ps_asg (pe_op op_mod (pe_callTy call_int1 (by rfl) (T.free 1) (by decide +kernel) (pa_cons (pe_op (addK (K := K) rfl) (pe_op (addK (K := K) rfl) (pe_op opr_mul (pe_ix (ixK (K := K) rfl) (pv 0) pe_int (fun _ _ => rfl)) pe_int) (pe_op opr_mul (pv 2) pe_int)) pe_int) pa_nil)) pe_int) (pg_sub (pv 0) pe_int set_list)))))) pss_nil)
    (pss_cons (ps_if (pt_cmpR op_gt (pe_ix (ixK (K := K) rfl) (pv 0) pe_int (fun _ _ => rfl)) pe_int (nomark _)) (pss_cons (ps_set (i := 3) sc_law_take.nd rfl (Or.inl rfl) (pe_op op_mod (pe_callTy call_int1 (by rfl) (T.free 1) (by decide +kernel) (pa_cons (pe_ix (ixK (K := K) rfl) (pv 0) pe_int (fun _ _ => rfl)) pa_nil)) (pv 1)))
    (pss_cons (ps_asg (pe_op op_fdivW (pe_callTy call_int1 (by rfl) (T.free 1) (by decide +kernel) (pa_cons (pe_ix (ixK (K := K) rfl) (pv 0) pe_int (fun _ _ => rfl)) pa_nil)) (pv 1)) (pg_sub (pv 0) pe_int set_list))
    (pss_one (ps_ret (pv 3))))) pss_nil)
    (pss_cons (ps_set (i := 4) sc_law_take.nd rfl (Or.inl rfl) (pe_op op_mod (pe_callTy call_int1 (by rfl) (T.free 1) (by decide +kernel) (pa_cons (pe_op opr_mul (pe_ix (ixK (K := K) rfl) (pv 0) pe_int (fun _ _ => rfl)) (pe_ix (ixK (K := K) rfl) (pv 0) pe_int (fun _ _ => rfl))) pa_nil)) pe_int))
    (pss_cons (ps_asg (pe_op op_mod (pe_callTy call_int1 (by rfl) (T.free 1) (by decide +kernel) (pa_cons (pe_op (addK (K := K) rfl) (pe_op (addK (K := K) rfl) (pe_op opr_mul (pv 4) pe_int) (pe_op opr_mul (pe_ix (ixK (K := K) rfl) (pv 0) pe_int (fun _ _ => rfl)) pe_int)) pe_int) pa_nil)) pe_int) (pg_sub (pv 0) pe_int set_list))
    (pss_one (ps_ret (pe_op op_mod (pe_callTy call_int1 (by rfl) (T.free 1) (by decide +kernel) (pa_cons (pe_op (addK (K := K) rfl) (pe_op op_fdivW (pe_ix (ixK (K := K) rfl) (pv 0) pe_int (fun _ _ => rfl)) pe_int) (pe_op opr_mul (pe_op op_mod (pe_callTy call_int1 (by rfl) (T.free 1) (by decide +kernel) (pa_cons (pe_ix (ixK (K := K) rfl) (pv 0) pe_int (fun _ _ => rfl)) pa_nil)) pe_int) pe_int)) pa_nil)) (pv 1))))))))
  · refine body_ok (N := ["_law_bag_here", "_law_many", "_law_cell", "_law_digit", "_law_square"]) (m := m_law_take) ?_ h
    exact (snd_seq (snd_ifS (snd_and (snd_testR (snd_op ops_eqA (snd_op ops_ix (snd_var 0) (snd_int 1)) (snd_int 0))) (snd_testR (snd_op ops_neA (snd_op ops_ix (snd_var 0) (snd_int 0)) (snd_lst snd_nil)))) (snd_seq (snd_asg (snd_popAt (snd_op ops_ix (snd_var 0) (snd_int 0))) (sndg_name 2))
    (snd_ifS (snd_testR (snd_op ops_ge (snd_var 2) (snd_op ops_pow (snd_int 10) (snd_int 18)))) (snd_setIx (snd_var 2) (snd_var 0) (snd_int 1)) (snd_setIx (snd_op ops_mod (snd_cb cb_int1 (snd_cons (snd_op ops_add (snd_op ops_add (snd_op ops_mul (snd_op ops_ix (snd_var 0) (snd_int 2)) (snd_int 40014)) (snd_op ops_mul (snd_var 2) (snd_int 7919))) (snd_int 31)) snd_nil)) (snd_int 2147483563)) (snd_var 0) (snd_int 2)))) snd_next)
    (snd_seq (snd_ifS (snd_testR (snd_op ops_gt (snd_op ops_ix (snd_var 0) (snd_int 1)) (snd_int 0))) (snd_seq (snd_asg (snd_op ops_mod (snd_cb cb_int1 (snd_cons (snd_op ops_ix (snd_var 0) (snd_int 1)) snd_nil)) (snd_var 1)) (sndg_name 3))
    (snd_seq (snd_setIx (snd_op ops_fdiv (snd_cb cb_int1 (snd_cons (snd_op ops_ix (snd_var 0) (snd_int 1)) snd_nil)) (snd_var 1)) (snd_var 0) (snd_int 1))
    (snd_ret (snd_var 3)))) snd_next)
    (snd_seq (snd_asg (snd_op ops_mod (snd_cb cb_int1 (snd_cons (snd_op ops_mul (snd_op ops_ix (snd_var 0) (snd_int 2)) (snd_op ops_ix (snd_var 0) (snd_int 2))) snd_nil)) (snd_int 2147483563)) (sndg_name 4))
    (snd_seq (snd_setIx (snd_op ops_mod (snd_cb cb_int1 (snd_cons (snd_op ops_add (snd_op ops_add (snd_op ops_mul (snd_var 4) (snd_int 3041)) (snd_op ops_mul (snd_op ops_ix (snd_var 0) (snd_int 2)) (snd_int 40692))) (snd_int 12211)) snd_nil)) (snd_int 2147483563)) (snd_var 0) (snd_int 2))
    (snd_ret (snd_op ops_mod (snd_cb cb_int1 (snd_cons (snd_op ops_add (snd_op ops_fdiv (snd_op ops_ix (snd_var 0) (snd_int 2)) (snd_int 37)) (snd_op ops_mul (snd_op ops_mod (snd_cb cb_int1 (snd_cons (snd_op ops_ix (snd_var 0) (snd_int 2)) snd_nil)) (snd_int 5003)) (snd_int 89))) snd_nil)) (snd_var 1)))))))

theorem sc_law_of : FnScope ["_law_bag_here", "_law_items"] ["_law_bag_here", "_law_items"] (defScope (top 7)) := ⟨rfl, rfl, rfl, by decide +kernel, rfl, by decide +kernel, by decide +kernel⟩
theorem bd_law_of {fd : FuncData} (F : FunD K "_law_of" "_law_of" (defArgs (top 7)) (defBody (top 7)) (defScope (top 7)) [] [] (He.ga K "_law_of") fd) : Binds K fd ["_law_bag_here", "_law_items"] [] :=
  FunD.bindsN F fun _ _ _ _ _ _ us hl => match us, hl with | [_, _], _ => rfl
theorem ok_law_of (T : Top fa fn K mg) : ∃ fd : FuncData, FunD K "_law_of" "_law_of" (defArgs (top 7)) (defBody (top 7)) (defScope (top 7)) [] [] (He.ga K "_law_of") fd ∧ Good P w K mg base 2 "_law_of" ["_law_bag_here", "_law_items"] fd g_law_of := by
  obtain ⟨fd_law_take, F_law_take, G_law_take⟩ := ok_law_take (P := P) (w := w) (base := base) T
  have B_law_take := bd_law_take F_law_take
  obtain ⟨fd, F0⟩ := T.def_ 2
  have F : FunD K "_law_of" "_law_of" (defArgs (top 7)) (defBody (top 7)) (defScope (top 7)) [] [] (He.ga K "_law_of") fd := F0
  refine ⟨fd, F, F.ok (k := 1) sc_law_of (fun vs H Q E h => spD_len h) (fun cdv A outer s H vs Q E hr h => ?_), T.glo 14, F.kp⟩
  apply Exists.intro
  apply And.intro
  · exact (pss_one (ps_ret (pe_ix (ixK (K := K) rfl) (pv 1) (pe_callSD G_law_take.ok (hr.mono (by decide)) rfl G_law_take.mgx G_law_take.kp B_law_take .nil (fun σ => passAt (takes_of rfl rfl rfl rfl) σ) (pa_cons (pv 0) (pa_cons (pe_callB (lenK (K := K) rfl) (by rfl) (T.free 0) PySem.boot_len (pa_cons (pv 1) pa_nil)) pa_nil))) (fun _ _ => rfl))))
  · refine body_ok (N := ["_law_bag_here", "_law_items"]) (m := m_law_of) ?_ h
    exact (snd_ret (snd_op ops_ix (snd_var 1) (snd_call (fun _ => RpL.nil) (snd_cons (snd_var 0) (snd_cons (snd_cb cb_len (snd_cons (snd_var 1) snd_nil)) snd_nil)))))

theorem sc_law_names : FnScope ["_law_bag_here", "_law_many", "_law_abc", "_law_stem", "_law_spot", "_law_start", "_law_k"] ["_law_bag_here", "_law_many"] (defScope (top 9)) := ⟨rfl, rfl, rfl, by decide +kernel, rfl, by decide +kernel, by decide +kernel⟩
theorem bd_law_names {fd : FuncData} (F : FunD K "_law_names" "_law_names" (defArgs (top 9)) (defBody (top 9)) (defScope (top 9)) [] [] (He.ga K "_law_names") fd) : Binds K fd ["_law_bag_here", "_law_many"] [] :=
  FunD.bindsN F fun _ _ _ _ _ _ us hl => match us, hl with | [_, _], _ => rfl
theorem ok_law_names (T : Top fa fn K mg) : ∃ fd : FuncData, FunD K "_law_names" "_law_names" (defArgs (top 9)) (defBody (top 9)) (defScope (top 9)) [] [] (He.ga K "_law_names") fd ∧ Good P w K mg base 3 "_law_names" ["_law_bag_here", "_law_many"] fd g_law_names := by
  obtain ⟨fd_law_take, F_law_take, G_law_take⟩ := ok_law_take (P := P) (w := w) (base := base) T
  have B_law_take := bd_law_take F_law_take
  obtain ⟨fd_law_of, F_law_of, G_law_of⟩ := ok_law_of (P := P) (w := w) (base := base) T
  have B_law_of := bd_law_of F_law_of
  obtain ⟨fd, F0⟩ := T.def_ 3
  have F : FunD K "_law_names" "_law_names" (defArgs (top 9)) (defBody (top 9)) (defScope (top 9)) [] [] (He.ga K "_law_names") fd := F0
  refine ⟨fd, F, F.ok (k := 2) sc_law_names (fun vs H Q E h => spD_len h) (fun cdv A outer s H vs Q E hr h => ?_), T.glo 15, F.kp⟩
  apply Exists.intro
  apply And.intro
  · exact (pss_cons (ps_set (i := 2) sc_law_names.nd rfl (Or.inr rfl) pe_str)
    (pss_cons (ps_set (i := 3) sc_law_names.nd rfl (Or.inr rfl) (pe_joinK (K := K) rfl pe_str (pe_lc (own := ([("_law_k", 6)] : List (Str × Nat))) rfl sc_law_names.nd (pi_range1 rfl (T.free 2) (pa_cons (pe_callSD G_law_take.ok (hr.mono (by decide)) rfl G_law_take.mgx G_law_take.kp B_law_take .nil (fun σ => passAt (takes_of rfl rfl rfl rfl) σ) (pa_cons (pv 0) (pa_cons pe_int pa_nil))) pa_nil)) (blkOk_by (N := ["_law_bag_here", "_law_many", "_law_abc", "_law_stem", "_law_spot", "_law_start", "_law_k"]) (sc := defScope (top 9)) (by decide +kernel)) (fun _ _ _ _ _ => (pg_name (i := 6) sc_law_names.nd rfl (Or.inl rfl))) (fun _ _ _ _ _ => pts_nil) (fun _ _ _ _ _ => (pe_callSD G_law_of.ok (hr.mono (by decide)) rfl G_law_of.mgx G_law_of.kp B_law_of .nil (fun σ => passAt takes0 σ) (pa_cons (pv 0) (pa_cons (pv 2) pa_nil)))))))
    (pss_cons (ps_asg (pe_tup (pa_cons (pe_callSD G_law_take.ok (hr.mono (by decide)) rfl G_law_take.mgx G_law_take.kp B_law_take .nil (fun σ => passAt (takes_of rfl rfl rfl rfl) σ) (pa_cons (pv 0) (pa_cons (pe_op (addK (K := K) rfl) (pe_callB (lenK (K := K) rfl) (by rfl) (T.free 0) PySem.boot_len (pa_cons (pv 3) pa_nil)) pe_int) pa_nil))) (pa_cons (pe_callSD G_law_take.ok (hr.mono (by decide)) rfl G_law_take.mgx G_law_take.kp B_law_take .nil (fun σ => passAt (takes_of rfl rfl rfl rfl) σ) (pa_cons (pv 0) (pa_cons pe_int pa_nil))) pa_nil))) (pg_tupK (K := K) (n := 2) rfl rfl (pgs_cons (pg_name (i := 4) sc_law_names.nd rfl (Or.inr rfl)) (pgs_cons (pg_name (i := 5) sc_law_names.nd rfl (Or.inr rfl)) pgs_nil))))
    (pss_one (ps_ret (pe_lc (own := ([("_law_k", 6)] : List (Str × Nat))) rfl sc_law_names.nd (pi_range1 rfl (T.free 2) (pa_cons (pv 1) pa_nil)) (blkOk_by (N := ["_law_bag_here", "_law_many", "_law_abc", "_law_stem", "_law_spot", "_law_start", "_law_k"]) (sc := defScope (top 9)) (by decide +kernel)) (fun _ _ _ _ _ => (pg_name (i := 6) sc_law_names.nd rfl (Or.inl rfl))) (fun _ _ _ _ _ => pts_nil) (fun _ _ _ _ _ => (pe_op (addK (K := K) rfl) (pe_op (addK (K := K) rfl) (pe_slice (slrK (K := K) rfl) (pv 3) po_none (po_some (pv 4))) (pe_ix (ixK (K := K) rfl) (pv 2) (pe_op op_mod (pe_callTy call_int1 (by rfl) (T.free 1) (by decide +kernel) (pa_cons (pe_op (addK (K := K) rfl) (pv 5) (pe_op opr_mul pe_int (pv 6))) pa_nil)) pe_int) (fun _ _ => rfl))) (pe_slice (slrK (K := K) rfl) (pv 3) (po_some (pv 4)) po_none)))))))))
  · refine body_ok (N := ["_law_bag_here", "_law_many", "_law_abc", "_law_stem", "_law_spot", "_law_start", "_law_k"]) (m := m_law_names) ?_ h
    exact (snd_seq (snd_asg (snd_str "abcdefghijklmnopqrstuvwxyz") (sndg_name 2))
    (snd_seq (snd_asg (snd_m1 mt1_join (snd_str "") (snd_lcF (vs := [6]) (sndi_rng1 (snd_cons (snd_call (fun _ => RpL.nil) (snd_cons (snd_var 0) (snd_cons (snd_int 4) snd_nil))) snd_nil)) (sndg_name 6) (by decide) snd_yes (snd_call (fun _ => RpL.nil) (snd_cons (snd_var 0) (snd_cons (snd_var 2) snd_nil)))).weak) (sndg_name 3))
    (snd_seq (snd_asg (snd_tup (snd_cons (snd_call (fun _ => RpL.nil) (snd_cons (snd_var 0) (snd_cons (snd_op ops_add (snd_cb cb_len (snd_cons (snd_var 3) snd_nil)) (snd_int 1)) snd_nil))) (snd_cons (snd_call (fun _ => RpL.nil) (snd_cons (snd_var 0) (snd_cons (snd_int 26) snd_nil))) snd_nil))) (sndg_tup (sndg_cons (sndg_name 4) (sndg_cons (sndg_name 5) sndg_nil))))
    (snd_ret (snd_lcF (vs := [6]) (sndi_rng1 (snd_cons (snd_var 1) snd_nil)) (sndg_name 6) (by decide) snd_yes (snd_op ops_add (snd_op ops_add (snd_sl (snd_var 3) sndo_none (sndo_some (snd_var 4))) (snd_op ops_ix (snd_var 2) (snd_op ops_mod (snd_cb cb_int1 (snd_cons (snd_op ops_add (snd_var 5) (snd_op ops_mul (snd_int 3) (snd_var 6))) snd_nil)) (snd_int 26)))) (snd_sl (snd_var 3) (sndo_some (snd_var 4)) sndo_none))).weak))))

theorem sc_law_same : FnScope ["_law_found", "_law_due", "_law_a", "_law_b"] ["_law_found", "_law_due"] (defScope (top 8)) := ⟨rfl, rfl, rfl, by decide +kernel, rfl, by decide +kernel, by decide +kernel⟩
theorem bd_law_same {fd : FuncData} (F : FunD K "_law_same" "_law_same" (defArgs (top 8)) (defBody (top 8)) (defScope (top 8)) [] [] (He.ga K "_law_same") fd) : Binds K fd ["_law_found", "_law_due"] [] :=
  FunD.bindsN F fun _ _ _ _ _ _ us hl => match us, hl with | [_, _], _ => rfl
theorem ok_law_same (T : Top fa fn K mg) : ∀ n : Nat, ∃ fd : FuncData, FunD K "_law_same" "_law_same" (defArgs (top 8)) (defBody (top 8)) (defScope (top 8)) [] [] (He.ga K "_law_same") fd ∧ Good P w K mg base (n + 1) "_law_same" ["_law_found", "_law_due"] fd (g_law_same n) := by
  obtain ⟨fd, F0⟩ := T.def_ 4
  have F : FunD K "_law_same" "_law_same" (defArgs (top 8)) (defBody (top 8)) (defScope (top 8)) [] [] (He.ga K "_law_same") fd := F0
  have B_law_same := bd_law_same F
  intro n
  refine ⟨fd, F, ?_⟩
  induction n with
  | zero => exact ⟨fnok_bad, T.glo 16, F.kp⟩
  | succ n ih =>
    refine ⟨F.ok (k := n + 1) sc_law_same (fun vs H Q E h => spD_len h) (fun cdv A outer s H vs Q E hr h => ?_), T.glo 16, F.kp⟩
    apply Exists.intro
    apply And.intro
    · exact (pss_cons (ps_if (PW.pt (pw_or (pt_cmpR op_isN (pv 1) pe_non (nomark _)) (pw_or1 (pt_cmpR op_isN (pv 0) pe_non (nomark _))))) (pss_one (ps_ret (pe_and (pe_cmpR op_isN (pv 1) pe_non (nomark _)) (pe_one (pe_cmpR op_isN (pv 0) pe_non (nomark _)))))) pss_nil)
    (pss_cons (ps_if (PW.pt (pw_or (pt_val (pe_callB (isiK (K := K) rfl) (by rfl) (T.free 3) (by decide +kernel) (pa_cons (pv 1) (pa_cons (pe_bltn rfl (T.free 4) (v := .ty "bool") (by decide +kernel) rfl) pa_nil)))) (pw_or1 (pt_val (pe_callB (isiK (K := K) rfl) (by rfl) (T.free 3) (by decide +kernel) (pa_cons (pv 0) (pa_cons (pe_bltn rfl (T.free 4) (v := .ty "bool") (by decide +kernel) rfl) pa_nil))))))) (pss_one (ps_ret (pe_and (pe_callB (isiK (K := K) rfl) (by rfl) (T.free 3) (by decide +kernel) (pa_cons (pv 1) (pa_cons (pe_bltn rfl (T.free 4) (v := .ty "bool") (by decide +kernel) rfl) pa_nil))) (pe_and (pe_callB (isiK (K := K) rfl) (by rfl) (T.free 3) (by decide +kernel) (pa_cons (pv 0) (pa_cons (pe_bltn rfl (T.free 4) (v := .ty "bool") (by decide +kernel) rfl) pa_nil))) (pe_one (pe_cmpR (eqK (K := K) rfl hr.units) (pv 1) (pv 0) (nomark _))))))) pss_nil)
    (pss_cons (ps_if (pt_val (pe_callB (isiK (K := K) rfl) (by rfl) (T.free 3) (by decide +kernel) (pa_cons (pv 1) (pa_cons (pe_bltn rfl (T.free 1) (v := .ty "int") (by decide +kernel) rfl) pa_nil)))) (pss_one (ps_ret (pe_and (pe_callB (isiK (K := K) rfl) (by rfl) (T.free 3) (by decide +kernel) (pa_cons (pv 0) (pa_cons (pe_bltn rfl (T.free 1) (v := .ty "int") (by decide +kernel) rfl) pa_nil))) (pe_one (pe_cmpR (eqK (K := K) rfl hr.units) (pv 1) (pv 0) (nomark _)))))) pss_nil)
    (pss_cons (ps_if (pt_val (pe_callB (isiK (K := K) rfl) (by rfl) (T.free 3) (by decide +kernel) (pa_cons (pv 1) (pa_cons (pe_bltn rfl (T.free 5) (v := .ty "str") (by decide +kernel) rfl) pa_nil)))) (pss_one (ps_ret (pe_and (pe_callB (isiK (K := K) rfl) (by rfl) (T.free 3) (by decide +kernel) (pa_cons (pv 0) (pa_cons (pe_bltn rfl (T.free 5) (v := .ty "str") (by decide +kernel) rfl) pa_nil))) (pe_one (pe_cmpR (eqK (K := K) rfl hr.units) (pv 1) (pv 0) (nomark _)))))) pss_nil)
    (pss_cons (ps_if (PW.pt (pw_and (pt_val (pe_callB (isiK (K := K) rfl) (by rfl) (T.free 3) (by decide +kernel) (pa_cons (pv 1) (pa_cons (pe_bltn rfl (T.free 6) (v := .ty "list") (by decide +kernel) rfl) pa_nil)))) (pw_and1 (pt_not (pt_val (pe_callB (isiK (K := K) rfl) (by rfl) (T.free 3) (by decide +kernel) (pa_cons (pv 0) (pa_cons (pe_bltn rfl (T.free 6) (v := .ty "list") (by decide +kernel) rfl) pa_nil)))))))) (pss_one (ps_ret pe_bl)) pss_nil)
    (pss_cons (ps_if (PW.pt (pw_and (pt_val (pe_callB (isiK (K := K) rfl) (by rfl) (T.free 3) (by decide +kernel) (pa_cons (pv 1) (pa_cons (pe_bltn rfl (T.free 7) (v := .ty "tuple") (by decide +kernel) rfl) pa_nil)))) (pw_and1 (pt_not (pt_val (pe_callB (isiK (K := K) rfl) (by rfl) (T.free 3) (by decide +kernel) (pa_cons (pv 0) (pa_cons (pe_bltn rfl (T.free 7) (v := .ty "tuple") (by decide +kernel) rfl) pa_nil)))))))) (pss_one (ps_ret pe_bl)) pss_nil)
    (pss_one (ps_ret (pe_and (pe_cmpR (eqK (K := K) rfl hr.units) (pe_callB (lenK (K := K) rfl) (by rfl) (T.free 0) PySem.boot_len (pa_cons (pv 0) pa_nil)) (pe_callB (lenK (K := K) rfl) (by rfl) (T.free 0) PySem.boot_len (pa_cons (pv 1) pa_nil)) (nomark _)) (pe_one (pe_callB (allK (K := K) rfl rfl) (by rfl) (T.free 8) (by decide +kernel) (pa_cons (pe_lc (own := ([("_law_a", 2), ("_law_b", 3)] : List (Str × Nat))) rfl sc_law_same.nd (pi_zipK (K := K) rfl (by rfl) (T.free 9) (pa_cons (pv 0) (pa_cons (pv 1) pa_nil))) (blkOk_by (N := ["_law_found", "_law_due", "_law_a", "_law_b"]) (sc := defScope (top 8)) (by decide +kernel)) (fun _ _ _ _ _ => (pg_tupK (K := K) (n := 2) rfl rfl (pgs_cons (pg_name (i := 2) sc_law_same.nd rfl (Or.inl rfl)) (pgs_cons (pg_name (i := 3) sc_law_same.nd rfl (Or.inl rfl)) pgs_nil)))) (fun _ _ _ _ _ => pts_nil) (fun _ _ _ _ _ => (pe_callSD ih.ok (hr.mono (by omega)) rfl ih.mgx ih.kp B_law_same .nil (fun σ => passAt takes0 σ) (pa_cons (pv 2) (pa_cons (pv 3) pa_nil))))) pa_nil))))))))))))
    · refine body_ok (N := ["_law_found", "_law_due", "_law_a", "_law_b"]) (m := m_law_same (g_law_same n)) ?_ h
      exact (snd_seq (snd_ifS (snd_or (snd_testR (snd_op ops_isN (snd_var 1) snd_non)) (snd_testR (snd_op ops_isN (snd_var 0) snd_non))) (snd_ret (snd_andV (snd_op ops_isN (snd_var 1) snd_non) (snd_op ops_isN (snd_var 0) snd_non))) snd_next)
    (snd_seq (snd_ifS (snd_or (snd_test (snd_cb cb_isi (snd_cons (snd_var 1) (snd_cons (snd_ty "bool") snd_nil)))) (snd_test (snd_cb cb_isi (snd_cons (snd_var 0) (snd_cons (snd_ty "bool") snd_nil))))) (snd_ret (snd_andV (snd_cb cb_isi (snd_cons (snd_var 1) (snd_cons (snd_ty "bool") snd_nil))) (snd_andV (snd_cb cb_isi (snd_cons (snd_var 0) (snd_cons (snd_ty "bool") snd_nil))) (snd_op ops_eqA (snd_var 1) (snd_var 0))))) snd_next)
    (snd_seq (snd_ifS (snd_test (snd_cb cb_isi (snd_cons (snd_var 1) (snd_cons (snd_ty "int") snd_nil)))) (snd_ret (snd_andV (snd_cb cb_isi (snd_cons (snd_var 0) (snd_cons (snd_ty "int") snd_nil))) (snd_op ops_eqA (snd_var 1) (snd_var 0)))) snd_next)
    (snd_seq (snd_ifS (snd_test (snd_cb cb_isi (snd_cons (snd_var 1) (snd_cons (snd_ty "str") snd_nil)))) (snd_ret (snd_andV (snd_cb cb_isi (snd_cons (snd_var 0) (snd_cons (snd_ty "str") snd_nil))) (snd_op ops_eqA (snd_var 1) (snd_var 0)))) snd_next)
    (snd_seq (snd_ifS (snd_and (snd_test (snd_cb cb_isi (snd_cons (snd_var 1) (snd_cons (snd_ty "list") snd_nil)))) (snd_not (snd_test (snd_cb cb_isi (snd_cons (snd_var 0) (snd_cons (snd_ty "list") snd_nil)))))) (snd_ret (snd_bl false)) snd_next)
    (snd_seq (snd_ifS (snd_and (snd_test (snd_cb cb_isi (snd_cons (snd_var 1) (snd_cons (snd_ty "tuple") snd_nil)))) (snd_not (snd_test (snd_cb cb_isi (snd_cons (snd_var 0) (snd_cons (snd_ty "tuple") snd_nil)))))) (snd_ret (snd_bl false)) snd_next)
    (snd_ret (snd_andV (snd_op ops_eqA (snd_cb cb_len (snd_cons (snd_var 0) snd_nil)) (snd_cb cb_len (snd_cons (snd_var 1) snd_nil))) (snd_cb cb_all (snd_cons (snd_lcF (vs := [2, 3]) (sndi_zip (snd_cons (snd_var 0) (snd_cons (snd_var 1) snd_nil))) (sndg_tup (sndg_cons (sndg_name 2) (sndg_cons (sndg_name 3) sndg_nil))) (by decide) snd_yes (snd_call (fun _ => RpL.nil) (snd_cons (snd_var 2) (snd_cons (snd_var 3) snd_nil)))).weak snd_nil))))))))))

theorem sc_is_name : FnScope ["value", "letter"] ["value"] (defScope (top 3)) := ⟨rfl, rfl, rfl, by decide +kernel, rfl, by decide +kernel, by decide +kernel⟩
theorem bd_is_name {fd : FuncData} (F : FunD K "is_name" "is_name" (defArgs (top 3)) (defBody (top 3)) (defScope (top 3)) [] [] (He.ga K "is_name") fd) : Binds K fd ["value"] [] :=
  FunD.bindsN F fun _ _ _ _ _ _ us hl => match us, hl with | [_], _ => rfl
theorem kb_is_name {fd : FuncData} (F : FunD K "is_name" "is_name" (defArgs (top 3)) (defBody (top 3)) (defScope (top 3)) [] [] (He.ga K "is_name") fd) : KBn K fd ["value"] 0 ["value"] (fun us ws => us ++ ws) (fun vs zs => vs ++ zs) :=
  kbn_plain F 0 ["value"] (fun a b => a ++ b) (fun a b => a.append b) fun _ _ _ _ _ _ us ws h1 h2 => match us, ws, h1, h2 with | [], [_], _, _ => rfl
theorem ok_is_name (T : Top fa fn K mg) : ∃ fd : FuncData, FunD K "is_name" "is_name" (defArgs (top 3)) (defBody (top 3)) (defScope (top 3)) [] [] (He.ga K "is_name") fd ∧ Good P w K mg base 1 "is_name" ["value"] fd g_is_name := by
  obtain ⟨_, h_MOST_LETTERS⟩ := T.int 10 (x := "MOST_LETTERS") (n := 6)
  obtain ⟨_, h_LETTERS⟩ := T.str 11 (x := "LETTERS") (z := "abcdefghijklmnopqrstuvwxyz")
  obtain ⟨fd, F0⟩ := T.def_ 5
  have F : FunD K "is_name" "is_name" (defArgs (top 3)) (defBody (top 3)) (defScope (top 3)) [] [] (He.ga K "is_name") fd := F0
  refine ⟨fd, F, F.ok (k := 0) sc_is_name (fun vs H Q E h => spD_len h) (fun cdv A outer s H vs Q E hr h => ?_), T.glo 17, F.kp⟩
  apply Exists.intro
  apply And.intro
  · exact (pss_cons (ps_if (PW.pt (pw_or (pt_not (pt_val (pe_callB (isiK (K := K) rfl) (by rfl) (T.free 3) (by decide +kernel) (pa_cons (pv 0) (pa_cons (pe_bltn rfl (T.free 5) (v := .ty "str") (by decide +kernel) rfl) pa_nil))))) (pw_or1 (pt_not (pt_chain op_le op_le pe_int (pe_callB (lenK (K := K) rfl) (by rfl) (T.free 0) PySem.boot_len (pa_cons (pv 0) pa_nil)) (pe_glob (v := .int 6) rfl h_MOST_LETTERS ⟨_, rfl⟩)))))) (pss_one (ps_ret pe_bl)) pss_nil)
    (pss_one (ps_ret (pe_callB (allK (K := K) rfl rfl) (by rfl) (T.free 8) (by decide +kernel) (pa_cons (pe_lc (own := ([("letter", 1)] : List (Str × Nat))) rfl sc_is_name.nd (pi_anyK (K := K) rfl (pv 0)) (blkOk_by (N := ["value", "letter"]) (sc := defScope (top 3)) (by decide +kernel)) (fun _ _ _ _ _ => (pg_name (i := 1) sc_is_name.nd rfl (Or.inl rfl))) (fun _ _ _ _ _ => pts_nil) (fun _ _ _ _ _ => (pe_cmpR (inK (K := K) rfl) (pv 1) (pe_glob (v := .str "abcdefghijklmnopqrstuvwxyz") rfl h_LETTERS ⟨_, rfl⟩) (by rfl)))) pa_nil)))))
  · refine body_ok (N := ["value", "letter"]) (m := m_is_name) ?_ h
    exact (snd_seq (snd_ifS (snd_or (snd_not (snd_test (snd_cb cb_isi (snd_cons (snd_var 0) (snd_cons (snd_ty "str") snd_nil))))) (snd_not (snd_testR (snd_chain ops_le ops_le (snd_int 1) (snd_cb cb_len (snd_cons (snd_var 0) snd_nil)) (snd_int 6))))) (snd_ret (snd_bl false)) snd_next)
    (snd_ret (snd_cb cb_all (snd_cons (snd_lcF (vs := [1]) (sndi_any (snd_var 0)) (sndg_name 1) (by decide) snd_yes (snd_op ops_in (snd_var 1) (snd_str "abcdefghijklmnopqrstuvwxyz"))).weak snd_nil))))

theorem sc_law : FnScope ["_law_script", "_law_bag_here", "_law_turn", "_law_words", "_law_spot", "_law_sign", "_law_bad", "_law_word"] ["_law_script"] (defScope (top 10)) := ⟨rfl, rfl, rfl, by decide +kernel, rfl, by decide +kernel, by decide +kernel⟩
theorem bd_law {fd : FuncData} (F : FunD K "law" "law" (defArgs (top 10)) (defBody (top 10)) (defScope (top 10)) [] [] (He.ga K "law") fd) : Binds K fd ["_law_script"] [] :=
  FunD.bindsN F fun _ _ _ _ _ _ us hl => match us, hl with | [_], _ => rfl
theorem ok_law (T : Top fa fn K mg) : ∃ fd : FuncData, FunD K "law" "law" (defArgs (top 10)) (defBody (top 10)) (defScope (top 10)) [] [] (He.ga K "law") fd ∧ Good P w K mg base 10 "law" ["_law_script"] fd g_law := by
  obtain ⟨fd_law_bag, F_law_bag, G_law_bag⟩ := ok_law_bag (P := P) (w := w) (base := base) T
  have B_law_bag := bd_law_bag F_law_bag
  obtain ⟨fd_law_take, F_law_take, G_law_take⟩ := ok_law_take (P := P) (w := w) (base := base) T
  have B_law_take := bd_law_take F_law_take
  obtain ⟨fd_law_of, F_law_of, G_law_of⟩ := ok_law_of (P := P) (w := w) (base := base) T
  have B_law_of := bd_law_of F_law_of
  obtain ⟨fd_law_names, F_law_names, G_law_names⟩ := ok_law_names (P := P) (w := w) (base := base) T
  have B_law_names := bd_law_names F_law_names
  obtain ⟨fd_law_same, F_law_same, G_law_same⟩ := ok_law_same (P := P) (w := w) (base := base) T 8
  have B_law_same := bd_law_same F_law_same
  obtain ⟨fd_is_name, F_is_name, G_is_name⟩ := ok_is_name (P := P) (w := w) (base := base) T
  have B_is_name := bd_is_name F_is_name
  have KB_is_name := kb_is_name F_is_name
  obtain ⟨fd, F0⟩ := T.def_ 6
  have F : FunD K "law" "law" (defArgs (top 10)) (defBody (top 10)) (defScope (top 10)) [] [] (He.ga K "law") fd := F0
  refine ⟨fd, F, F.ok (k := 9) sc_law (fun vs H Q E h => spD_len h) (fun cdv A outer s H vs Q E hr h => ?_), T.glo 18, F.kp⟩
  apply Exists.intro
  apply And.intro
  · exact (pss_cons (ps_set (i := 1) sc_law.nd rfl (Or.inl rfl) (pe_callSD G_law_bag.ok (hr.mono (by decide)) rfl G_law_bag.mgx G_law_bag.kp B_law_bag .nil (fun σ => passAt (takes_of rfl rfl rfl rfl) σ) (pa_cons (pv 0) pa_nil)))
    (pss_cons (ps_for (passes_of rfl) rfl (pi_range1 rfl (T.free 2) (pa_cons pe_int pa_nil)) (pg_name (i := 2) sc_law.nd rfl (Or.inl rfl)) (pss_cons (ps_set (i := 3) sc_law.nd rfl (Or.inl rfl) (pe_op (addK (K := K) rfl) (pe_callSD G_law_names.ok (hr.mono (by decide)) rfl G_law_names.mgx G_law_names.kp B_law_names .nil (fun σ => passAt (takes_of rfl rfl rfl rfl) σ) (pa_cons (pv 1) (pa_cons pe_int pa_nil))) (pe_lst (pa_cons pe_str (pa_cons pe_str (pa_cons pe_str (pa_cons pe_str (pa_cons pe_str pa_nil))))))))
    (pss_cons (ps_par (i := 4) (j := 5) rfl sc_law.nd rfl rfl (by decide) rfl rfl (pa_cons (pe_callSD G_law_take.ok (hr.mono (by decide)) rfl G_law_take.mgx G_law_take.kp B_law_take .nil (fun σ => passAt (takes_of rfl rfl rfl rfl) σ) (pa_cons (pv 1) (pa_cons (pe_op (addK (K := K) rfl) (pe_callB (lenK (K := K) rfl) (by rfl) (T.free 0) PySem.boot_len (pa_cons (pe_ix (ixK (K := K) rfl) (pv 3) pe_int (fun _ _ => rfl)) pa_nil)) pe_int) pa_nil))) (pa_cons (pe_callSD G_law_of.ok (hr.mono (by decide)) rfl G_law_of.mgx G_law_of.kp B_law_of .nil (fun σ => passAt (takes_of rfl rfl rfl rfl) σ) (pa_cons (pv 1) (pa_cons (pe_lst (pa_cons pe_str (pa_cons pe_str (pa_cons pe_str (pa_cons pe_str (pa_cons pe_str (pa_cons pe_str (pa_cons pe_str (pa_cons pe_str (pa_cons pe_str pa_nil)))))))))) pa_nil))) pa_nil)) (by rfl))
    (pss_cons (ps_set (i := 6) sc_law.nd rfl (Or.inl rfl) (pe_lst (pa_cons pe_str (pa_cons (pe_op (addK (K := K) rfl) (pe_op (addK (K := K) rfl) (pe_slice (slrK (K := K) rfl) (pe_ix (ixK (K := K) rfl) (pv 3) pe_int (fun _ _ => rfl)) po_none (po_some (pv 4))) (pv 5)) (pe_slice (slrK (K := K) rfl) (pe_ix (ixK (K := K) rfl) (pv 3) pe_int (fun _ _ => rfl)) (po_some (pv 4)) po_none)) (pa_cons (pe_op (addK (K := K) rfl) (pe_ix (ixK (K := K) rfl) (pv 3) pe_int (fun _ _ => rfl)) pe_str) (pa_cons pe_non (pa_cons pe_int (pa_cons pe_bl (pa_cons (pe_tup (pa_cons pe_str pa_nil)) (pa_cons (pe_lst (pa_cons pe_str pa_nil)) (pa_cons (pe_tup pa_nil) pa_nil)))))))))))
    (pss_cons (ps_if (pt_not (pt_val (pe_callSD G_law_same.ok (hr.mono (by omega)) rfl G_law_same.mgx G_law_same.kp B_law_same .nil (fun σ => passAt (takes_of rfl rfl rfl rfl) σ) (pa_cons (pe_lc (own := ([("_law_word", 7)] : List (Str × Nat))) rfl sc_law.nd (pi_anyK (K := K) rfl (pv 3)) (blkOk_by (N := ["_law_script", "_law_bag_here", "_law_turn", "_law_words", "_law_spot", "_law_sign", "_law_bad", "_law_word"]) (sc := defScope (top 10)) (by decide +kernel)) (fun _ _ _ _ _ => (pg_name (i := 7) sc_law.nd rfl (Or.inl rfl))) (fun _ _ _ _ _ => pts_nil) (fun _ _ _ _ _ => (pe_callSD G_is_name.ok (hr.mono (by decide)) rfl G_is_name.mgx G_is_name.kp B_is_name .nil (fun σ => passAt takes0 σ) (pa_cons (pv 7) pa_nil)))) (pa_cons (pe_op opr_mul (pe_lst (pa_cons pe_bl pa_nil)) pe_int) pa_nil))))) (pss_one (ps_ret pe_bl)) pss_nil)
    (pss_one (ps_if (pt_not (pt_val (pe_callSD G_law_same.ok (hr.mono (by omega)) rfl G_law_same.mgx G_law_same.kp B_law_same .nil (fun σ => passAt (takes_of rfl rfl rfl rfl) σ) (pa_cons (pe_lc (own := ([("_law_word", 7)] : List (Str × Nat))) rfl sc_law.nd (pi_anyK (K := K) rfl (pv 6)) (blkOk_by (N := ["_law_script", "_law_bag_here", "_law_turn", "_law_words", "_law_spot", "_law_sign", "_law_bad", "_law_word"]) (sc := defScope (top 10)) (by decide +kernel)) (fun _ _ _ _ _ => (pg_name (i := 7) sc_law.nd rfl (Or.inl rfl))) (fun _ _ _ _ _ => pts_nil) (fun _ _ _ _ _ => (pe_callNS0 G_is_name.ok (hr.mono (by decide)) rfl G_is_name.mgx G_is_name.kp KB_is_name (fun σ => passAt takes0 σ) (pk_cons (pv 7) pk_nil)))) (pa_cons (pe_op opr_mul (pe_lst (pa_cons pe_bl pa_nil)) pe_int) pa_nil))))) (pss_one (ps_ret pe_bl)) pss_nil)))))))
    (pss_one (ps_ret pe_bl))))
  · refine body_ok (N := ["_law_script", "_law_bag_here", "_law_turn", "_law_words", "_law_spot", "_law_sign", "_law_bad", "_law_word"]) (m := m_law) ?_ h
    exact (snd_seq (snd_asg (snd_call (fun _ => RpL.nil) (snd_cons (snd_var 0) snd_nil)) (sndg_name 1))
    (snd_seq (snd_for (sndi_rng1 (snd_cons (snd_int 4) snd_nil)) (sndg_name 2) (snd_seq (snd_asg (snd_op ops_add (snd_call (fun _ => RpL.nil) (snd_cons (snd_var 1) (snd_cons (snd_int 3) snd_nil))) (snd_lst (snd_cons (snd_str "a") (snd_cons (snd_str "zzzzzz") (snd_cons (snd_str "hard") (snd_cons (snd_str "source") (snd_cons (snd_str "voter") snd_nil))))))) (sndg_name 3))
    (snd_seq (snd_par (snd_cons (snd_call (fun _ => RpL.nil) (snd_cons (snd_var 1) (snd_cons (snd_op ops_add (snd_cb cb_len (snd_cons (snd_op ops_ix (snd_var 3) (snd_int 0)) snd_nil)) (snd_int 1)) snd_nil))) (snd_cons (snd_call (fun _ => RpL.nil) (snd_cons (snd_var 1) (snd_cons (snd_lst (snd_cons (snd_str "A") (snd_cons (snd_str "_") (snd_cons (snd_str "1") (snd_cons (snd_str " ") (snd_cons (snd_str "-") (snd_cons (snd_str "~") (snd_cons (snd_str "\n") (snd_cons (snd_str "Z") (snd_cons (snd_str ".") snd_nil)))))))))) snd_nil))) snd_nil)))
    (snd_seq (snd_asg (snd_lst (snd_cons (snd_str "") (snd_cons (snd_op ops_add (snd_op ops_add (snd_sl (snd_op ops_ix (snd_var 3) (snd_int 0)) sndo_none (sndo_some (snd_var 4))) (snd_var 5)) (snd_sl (snd_op ops_ix (snd_var 3) (snd_int 0)) (sndo_some (snd_var 4)) sndo_none)) (snd_cons (snd_op ops_add (snd_op ops_ix (snd_var 3) (snd_int 1)) (snd_str "aaaaaa")) (snd_cons snd_non (snd_cons (snd_int 3) (snd_cons (snd_bl true) (snd_cons (snd_tup (snd_cons (snd_str "a") snd_nil)) (snd_cons (snd_lst (snd_cons (snd_str "a") snd_nil)) (snd_cons (snd_tup snd_nil) snd_nil)))))))))) (sndg_name 6))
    (snd_seq (snd_ifS (snd_not (snd_test (snd_call (fun _ => RpL.nil) (snd_cons (snd_lcF (vs := [7]) (sndi_any (snd_var 3)) (sndg_name 7) (by decide) snd_yes (snd_call (fun _ => RpL.nil) (snd_cons (snd_var 7) snd_nil))).weak (snd_cons (snd_op ops_mul (snd_lst (snd_cons (snd_bl true) snd_nil)) (snd_int 8)) snd_nil))))) (snd_ret (snd_bl false)) snd_next)
    (snd_ifS (snd_not (snd_test (snd_call (fun _ => RpL.nil) (snd_cons (snd_lcF (vs := [7]) (sndi_any (snd_var 6)) (sndg_name 7) (by decide) snd_yes (snd_callK (fun _ _ _ _ _ a b => a.append b) snd_nil (snd_cons (snd_var 7) snd_nil))).weak (snd_cons (snd_op ops_mul (snd_lst (snd_cons (snd_bl false) snd_nil)) (snd_int 9)) snd_nil))))) (snd_ret (snd_bl false)) snd_next))))))
    (snd_ret (snd_bl true))))

end
end G

set_option maxHeartbeats 4000000
/-! the plain law of k02 -/
namespace G
open PySem PySem.Spec PyProof.Rows L2 DL
theorem take_is : g_law_take = gTake := rfl
theorem of_is : g_law_of = gOf := rfl
theorem bag_is : g_law_bag = gBag := rfl
theorem same_is : ∀ n, g_law_same n = gSame n
  | 0 => rfl
  | n + 1 => by
    show mBody 4 (m_law_same (g_law_same n)) = mBody 4 (mSame (gSame n))
    rw [same_is n]
    rfl
/-- the letters -/
def abc : List Nat := [97, 98, 99, 100, 101, 102, 103, 104, 105, 106, 107, 108, 109, 110, 111, 112, 113, 114, 115, 116, 117, 118, 119, 120, 121, 122]
theorem abc_is : ("abcdefghijklmnopqrstuvwxyz" : Str) = sg abc := by decide +kernel
theorem e_is : ("" : Str) = sg [] := by decide +kernel
theorem is_name_len {cs : List Nat} {M : Mem} (h : cs.length ≤ 16777216) : g_is_name [.str (sg cs)] M = .ok (.bl (decide (1 ≤ cs.length) && decide (cs.length ≤ 6) && cs.all fun c => decide (c ∈ abc))) M := by
  have hl : (sg cs).length ≤ sizeLine := by rw [sg_len]; exact h
  have eL : ∀ M, fLen (.str (sg cs)) M = .ok (.int cs.length) M := fun M => by rw [fLen_str hl, sg_len]
  have hs : (signsD (sg cs)).length ≤ 16777216 := by rw [signs_sg, List.length_map]; exact h
  have eG : lcGo [.val (.str (sg cs)), .no] (mgName 1) mYes (mOp (fIn false) (mVar 1) (mC (.str "abcdefghijklmnopqrstuvwxyz"))) (signsD (sg cs)) M = .ok ((cs.map fun c => decide (c ∈ abc)).map D.bl) M := by
    rw [lc_pure (fun d => match d with | .str z => (match z.cps.toList with | [c] => .bl (decide (c ∈ abc)) | _ => .non) | _ => .non)]
    · rw [signs_sg, List.map_map, List.map_map]
      rfl
    · intro d hd
      rw [signs_sg] at hd
      obtain ⟨c, hc, rfl⟩ := List.mem_map.mp hd
      refine ⟨_, rfl, ?_⟩
      simp only [mVar_go, varK_ok, mC_go, opK2_ok, opK2_exc, opK_ok, opK_exc, mOp_go, mNil_go, consK2_ok, consK2_exc, consK_ok, consK_exc, mCons_go, tupK_ok, tupK_exc, mTup_go, lstK_ok, lstK_exc, mLst_go, ownK_ok, ownK_ok1, ownK_ok2, ownK_exc, mOwn_go, tsK_ok, tsK_exc, mTest_go, andK_ok, andK_ok1, andK_exc, mAnd_go, orK_ok, orK_ok1, orK_exc, mOr_go, notK_ok, notK_exc, mNot_go, mbK_ok, mbK_exc, mB_go, ifeK_ok, ifeK_ok1, ifeK_exc, mIfE_go, mYes_go, mNext_go, seqK_nx, seqK_rt, seqK_bk, seqK_ct, seqK_ex, mSeq_go, ifK_ok, ifK_ok1, ifK_exc, mIfS_go, retK_ok, retK_exc, mRet_go, mRetN_go, dropK_ok, dropK_exc, mDrop_go, mBreak_go, mCont_go, putK_some, asgK_ok, asgK_exc, mAsg_go, mgName_go, mgNil_go, gsK_some, mgCons_go, mgTup_go, parK_ok, parK_exc, mPar_go, setK3_exc, set5_ok, set4_ok, setK3_ok, setK2_ok, setK2_exc, setK_ok, setK_exc, mSetIx_go, popK_ok, popK_exc, mPopAt_go, forGo_nil, forK2_some, forK3_nx, forK3_ct, forK3_bk, forK3_rt, forK3_ex, forK_ok, forK_exc, mFor_go, lcE_ok, lcE_exc, lcK_ok, lcK_exc, mLc_go, wipe_nil, wipe_cons, lcGo_nil, lcK4_ok, lcK3_t, lcK3_f, lcK2_some, rng1K_ok, rng1K_exc, mRng1_go, itK_ok, itK_ok1, itK_ok2, itK_exc, mIAny_go, zipK_ok, zipK_exc, mZip_go, callK_ok, callK_exc, mCall_go, kcK2_ok, kcK2_exc, kcK_ok, kcK_exc, mCallK_go, cbK_ok, cbK_exc, mCB_go, f1_go, chK4_ok, chK4_exc, chK3_ok, chK3_ok1, chK3_exc, chK2_ok, chK2_exc, chK_ok, chK_exc, mChain_go, mNoPart_go, partK_ok, partK_exc, mPart_go, slK3_ok, slK3_exc, slK2_ok, slK2_exc, slK_ok, slK_exc, mSl_go, fSl_str, fSl_lst, fSl_tup, fSl_scr, m1K2_ok, m1K2_exc, m1K_ok, m1K_exc, mM1_go, fLt_int, fLe_int, fGt_int, fGe_int, fSub_int, fAdd_int, fPop_go, pop2_ok, ixL_ok, ixO_ok, fIx_goL, fIx_goT, fIx_goO, atI_0, ixN_1_0, ixN_2_0, ixN_3_0, ixN_4_0, ixN_5_0, ixN_6_0, atI_1, ixN_2_1, ixN_3_1, ixN_4_1, ixN_5_1, ixN_6_1, atI_2, ixN_3_2, ixN_4_2, ixN_5_2, ixN_6_2, atI_3, ixN_4_3, ixN_5_3, ixN_6_3, atI_4, ixN_5_4, ixN_6_4, atI_5, ixN_6_5, atI_6, atI_7, atI_8, atI_9, atI_10, atI_11, atI_12, fLen_lst, fLen_tup, fInt1_int, fEqA_int, fEqA_str, fEqA_bl, fNeA_int, fNeA_str, isi_non_bool, isi_bl_bool, isi_int_bool, isi_str_bool, isi_lst_bool, isi_tup_bool, isi_non_int, isi_bl_int, isi_int_int, isi_str_int, isi_lst_int, isi_tup_int, isi_non_str, isi_bl_str, isi_int_str, isi_str_str, isi_lst_str, isi_tup_str, isi_non_list, isi_bl_list, isi_int_list, isi_str_list, isi_lst_list, isi_tup_list, isi_non_tuple, isi_bl_tuple, isi_int_tuple, isi_str_tuple, isi_lst_tuple, isi_tup_tuple, isi_non_dict, isi_bl_dict, isi_int_dict, isi_str_dict, isi_lst_dict, isi_tup_dict, isN_non, isN_bl, isN_int, isN_str, isN_lst, isN_tup, body_eq, bodyK_nx, bodyK_rt, bodyK_ex, rho0, List.map_cons, List.map_nil, List.length_cons, List.length_nil, List.replicate_succ, List.replicate_zero, List.cons_append, List.nil_append, List.append_nil, List.set_cons_succ, List.set_cons_zero, List.getElem?_cons_zero, List.getElem?_cons_succ, Nat.reduceAdd, Nat.reduceSub, Nat.zero_add, Nat.reduceEqDiff, if_true, ite_true, ite_false, eq_self, ite_self, size_eq, and_self, Nat.zero_le, Nat.reduceLeDiff, abc_is, fIn_sg]
      rfl
  by_cases c1 : 1 ≤ cs.length
  · have c1' : (1 : Int) ≤ (cs.length : Int) := by omega
    by_cases c2 : cs.length ≤ 6
    · have c2' : (cs.length : Int) ≤ 6 := by omega
      simp only [g_is_name, m_is_name, mVar_go, varK_ok, mC_go, opK2_ok, opK2_exc, opK_ok, opK_exc, mOp_go, mNil_go, consK2_ok, consK2_exc, consK_ok, consK_exc, mCons_go, tupK_ok, tupK_exc, mTup_go, lstK_ok, lstK_exc, mLst_go, ownK_ok, ownK_ok1, ownK_ok2, ownK_exc, mOwn_go, tsK_ok, tsK_exc, mTest_go, andK_ok, andK_ok1, andK_exc, mAnd_go, orK_ok, orK_ok1, orK_exc, mOr_go, notK_ok, notK_exc, mNot_go, mbK_ok, mbK_exc, mB_go, ifeK_ok, ifeK_ok1, ifeK_exc, mIfE_go, mYes_go, mNext_go, seqK_nx, seqK_rt, seqK_bk, seqK_ct, seqK_ex, mSeq_go, ifK_ok, ifK_ok1, ifK_exc, mIfS_go, retK_ok, retK_exc, mRet_go, mRetN_go, dropK_ok, dropK_exc, mDrop_go, mBreak_go, mCont_go, putK_some, asgK_ok, asgK_exc, mAsg_go, mgName_go, mgNil_go, gsK_some, mgCons_go, mgTup_go, parK_ok, parK_exc, mPar_go, setK3_exc, set5_ok, set4_ok, setK3_ok, setK2_ok, setK2_exc, setK_ok, setK_exc, mSetIx_go, popK_ok, popK_exc, mPopAt_go, forGo_nil, forK2_some, forK3_nx, forK3_ct, forK3_bk, forK3_rt, forK3_ex, forK_ok, forK_exc, mFor_go, lcE_ok, lcE_exc, lcK_ok, lcK_exc, mLc_go, wipe_nil, wipe_cons, lcGo_nil, lcK4_ok, lcK3_t, lcK3_f, lcK2_some, rng1K_ok, rng1K_exc, mRng1_go, itK_ok, itK_ok1, itK_ok2, itK_exc, mIAny_go, zipK_ok, zipK_exc, mZip_go, callK_ok, callK_exc, mCall_go, kcK2_ok, kcK2_exc, kcK_ok, kcK_exc, mCallK_go, cbK_ok, cbK_exc, mCB_go, f1_go, chK4_ok, chK4_exc, chK3_ok, chK3_ok1, chK3_exc, chK2_ok, chK2_exc, chK_ok, chK_exc, mChain_go, mNoPart_go, partK_ok, partK_exc, mPart_go, slK3_ok, slK3_exc, slK2_ok, slK2_exc, slK_ok, slK_exc, mSl_go, fSl_str, fSl_lst, fSl_tup, fSl_scr, m1K2_ok, m1K2_exc, m1K_ok, m1K_exc, mM1_go, fLt_int, fLe_int, fGt_int, fGe_int, fSub_int, fAdd_int, fPop_go, pop2_ok, ixL_ok, ixO_ok, fIx_goL, fIx_goT, fIx_goO, atI_0, ixN_1_0, ixN_2_0, ixN_3_0, ixN_4_0, ixN_5_0, ixN_6_0, atI_1, ixN_2_1, ixN_3_1, ixN_4_1, ixN_5_1, ixN_6_1, atI_2, ixN_3_2, ixN_4_2, ixN_5_2, ixN_6_2, atI_3, ixN_4_3, ixN_5_3, ixN_6_3, atI_4, ixN_5_4, ixN_6_4, atI_5, ixN_6_5, atI_6, atI_7, atI_8, atI_9, atI_10, atI_11, atI_12, fLen_lst, fLen_tup, fInt1_int, fEqA_int, fEqA_str, fEqA_bl, fNeA_int, fNeA_str, isi_non_bool, isi_bl_bool, isi_int_bool, isi_str_bool, isi_lst_bool, isi_tup_bool, isi_non_int, isi_bl_int, isi_int_int, isi_str_int, isi_lst_int, isi_tup_int, isi_non_str, isi_bl_str, isi_int_str, isi_str_str, isi_lst_str, isi_tup_str, isi_non_list, isi_bl_list, isi_int_list, isi_str_list, isi_lst_list, isi_tup_list, isi_non_tuple, isi_bl_tuple, isi_int_tuple, isi_str_tuple, isi_lst_tuple, isi_tup_tuple, isi_non_dict, isi_bl_dict, isi_int_dict, isi_str_dict, isi_lst_dict, isi_tup_dict, isN_non, isN_bl, isN_int, isN_str, isN_lst, isN_tup, body_eq, bodyK_nx, bodyK_rt, bodyK_ex, rho0, List.map_cons, List.map_nil, List.length_cons, List.length_nil, List.replicate_succ, List.replicate_zero, List.cons_append, List.nil_append, List.append_nil, List.set_cons_succ, List.set_cons_zero, List.getElem?_cons_zero, List.getElem?_cons_succ, Nat.reduceAdd, Nat.reduceSub, Nat.zero_add, Nat.reduceEqDiff, if_true, ite_true, ite_false, eq_self, ite_self, size_eq, and_self, Nat.zero_le, Nat.reduceLeDiff, Bool.not_true, eL, c1', c2', decide_true, hs, eG, fAll_map, c1, c2, Bool.true_and, Bool.not_false, List.all_map]
      rfl
    · have c2' : ¬ (cs.length : Int) ≤ 6 := by omega
      simp only [g_is_name, m_is_name, mVar_go, varK_ok, mC_go, opK2_ok, opK2_exc, opK_ok, opK_exc, mOp_go, mNil_go, consK2_ok, consK2_exc, consK_ok, consK_exc, mCons_go, tupK_ok, tupK_exc, mTup_go, lstK_ok, lstK_exc, mLst_go, ownK_ok, ownK_ok1, ownK_ok2, ownK_exc, mOwn_go, tsK_ok, tsK_exc, mTest_go, andK_ok, andK_ok1, andK_exc, mAnd_go, orK_ok, orK_ok1, orK_exc, mOr_go, notK_ok, notK_exc, mNot_go, mbK_ok, mbK_exc, mB_go, ifeK_ok, ifeK_ok1, ifeK_exc, mIfE_go, mYes_go, mNext_go, seqK_nx, seqK_rt, seqK_bk, seqK_ct, seqK_ex, mSeq_go, ifK_ok, ifK_ok1, ifK_exc, mIfS_go, retK_ok, retK_exc, mRet_go, mRetN_go, dropK_ok, dropK_exc, mDrop_go, mBreak_go, mCont_go, putK_some, asgK_ok, asgK_exc, mAsg_go, mgName_go, mgNil_go, gsK_some, mgCons_go, mgTup_go, parK_ok, parK_exc, mPar_go, setK3_exc, set5_ok, set4_ok, setK3_ok, setK2_ok, setK2_exc, setK_ok, setK_exc, mSetIx_go, popK_ok, popK_exc, mPopAt_go, forGo_nil, forK2_some, forK3_nx, forK3_ct, forK3_bk, forK3_rt, forK3_ex, forK_ok, forK_exc, mFor_go, lcE_ok, lcE_exc, lcK_ok, lcK_exc, mLc_go, wipe_nil, wipe_cons, lcGo_nil, lcK4_ok, lcK3_t, lcK3_f, lcK2_some, rng1K_ok, rng1K_exc, mRng1_go, itK_ok, itK_ok1, itK_ok2, itK_exc, mIAny_go, zipK_ok, zipK_exc, mZip_go, callK_ok, callK_exc, mCall_go, kcK2_ok, kcK2_exc, kcK_ok, kcK_exc, mCallK_go, cbK_ok, cbK_exc, mCB_go, f1_go, chK4_ok, chK4_exc, chK3_ok, chK3_ok1, chK3_exc, chK2_ok, chK2_exc, chK_ok, chK_exc, mChain_go, mNoPart_go, partK_ok, partK_exc, mPart_go, slK3_ok, slK3_exc, slK2_ok, slK2_exc, slK_ok, slK_exc, mSl_go, fSl_str, fSl_lst, fSl_tup, fSl_scr, m1K2_ok, m1K2_exc, m1K_ok, m1K_exc, mM1_go, fLt_int, fLe_int, fGt_int, fGe_int, fSub_int, fAdd_int, fPop_go, pop2_ok, ixL_ok, ixO_ok, fIx_goL, fIx_goT, fIx_goO, atI_0, ixN_1_0, ixN_2_0, ixN_3_0, ixN_4_0, ixN_5_0, ixN_6_0, atI_1, ixN_2_1, ixN_3_1, ixN_4_1, ixN_5_1, ixN_6_1, atI_2, ixN_3_2, ixN_4_2, ixN_5_2, ixN_6_2, atI_3, ixN_4_3, ixN_5_3, ixN_6_3, atI_4, ixN_5_4, ixN_6_4, atI_5, ixN_6_5, atI_6, atI_7, atI_8, atI_9, atI_10, atI_11, atI_12, fLen_lst, fLen_tup, fInt1_int, fEqA_int, fEqA_str, fEqA_bl, fNeA_int, fNeA_str, isi_non_bool, isi_bl_bool, isi_int_bool, isi_str_bool, isi_lst_bool, isi_tup_bool, isi_non_int, isi_bl_int, isi_int_int, isi_str_int, isi_lst_int, isi_tup_int, isi_non_str, isi_bl_str, isi_int_str, isi_str_str, isi_lst_str, isi_tup_str, isi_non_list, isi_bl_list, isi_int_list, isi_str_list, isi_lst_list, isi_tup_list, isi_non_tuple, isi_bl_tuple, isi_int_tuple, isi_str_tuple, isi_lst_tuple, isi_tup_tuple, isi_non_dict, isi_bl_dict, isi_int_dict, isi_str_dict, isi_lst_dict, isi_tup_dict, isN_non, isN_bl, isN_int, isN_str, isN_lst, isN_tup, body_eq, bodyK_nx, bodyK_rt, bodyK_ex, rho0, List.map_cons, List.map_nil, List.length_cons, List.length_nil, List.replicate_succ, List.replicate_zero, List.cons_append, List.nil_append, List.append_nil, List.set_cons_succ, List.set_cons_zero, List.getElem?_cons_zero, List.getElem?_cons_succ, Nat.reduceAdd, Nat.reduceSub, Nat.zero_add, Nat.reduceEqDiff, if_true, ite_true, ite_false, eq_self, ite_self, size_eq, and_self, Nat.zero_le, Nat.reduceLeDiff, Bool.not_true, eL, c1', c2', decide_true, decide_false, c1, c2, Bool.true_and, Bool.not_false, Bool.false_and]
  · have c1' : ¬ (1 : Int) ≤ (cs.length : Int) := by omega
    simp only [g_is_name, m_is_name, mVar_go, varK_ok, mC_go, opK2_ok, opK2_exc, opK_ok, opK_exc, mOp_go, mNil_go, consK2_ok, consK2_exc, consK_ok, consK_exc, mCons_go, tupK_ok, tupK_exc, mTup_go, lstK_ok, lstK_exc, mLst_go, ownK_ok, ownK_ok1, ownK_ok2, ownK_exc, mOwn_go, tsK_ok, tsK_exc, mTest_go, andK_ok, andK_ok1, andK_exc, mAnd_go, orK_ok, orK_ok1, orK_exc, mOr_go, notK_ok, notK_exc, mNot_go, mbK_ok, mbK_exc, mB_go, ifeK_ok, ifeK_ok1, ifeK_exc, mIfE_go, mYes_go, mNext_go, seqK_nx, seqK_rt, seqK_bk, seqK_ct, seqK_ex, mSeq_go, ifK_ok, ifK_ok1, ifK_exc, mIfS_go, retK_ok, retK_exc, mRet_go, mRetN_go, dropK_ok, dropK_exc, mDrop_go, mBreak_go, mCont_go, putK_some, asgK_ok, asgK_exc, mAsg_go, mgName_go, mgNil_go, gsK_some, mgCons_go, mgTup_go, parK_ok, parK_exc, mPar_go, setK3_exc, set5_ok, set4_ok, setK3_ok, setK2_ok, setK2_exc, setK_ok, setK_exc, mSetIx_go, popK_ok, popK_exc, mPopAt_go, forGo_nil, forK2_some, forK3_nx, forK3_ct, forK3_bk, forK3_rt, forK3_ex, forK_ok, forK_exc, mFor_go, lcE_ok, lcE_exc, lcK_ok, lcK_exc, mLc_go, wipe_nil, wipe_cons, lcGo_nil, lcK4_ok, lcK3_t, lcK3_f, lcK2_some, rng1K_ok, rng1K_exc, mRng1_go, itK_ok, itK_ok1, itK_ok2, itK_exc, mIAny_go, zipK_ok, zipK_exc, mZip_go, callK_ok, callK_exc, mCall_go, kcK2_ok, kcK2_exc, kcK_ok, kcK_exc, mCallK_go, cbK_ok, cbK_exc, mCB_go, f1_go, chK4_ok, chK4_exc, chK3_ok, chK3_ok1, chK3_exc, chK2_ok, chK2_exc, chK_ok, chK_exc, mChain_go, mNoPart_go, partK_ok, partK_exc, mPart_go, slK3_ok, slK3_exc, slK2_ok, slK2_exc, slK_ok, slK_exc, mSl_go, fSl_str, fSl_lst, fSl_tup, fSl_scr, m1K2_ok, m1K2_exc, m1K_ok, m1K_exc, mM1_go, fLt_int, fLe_int, fGt_int, fGe_int, fSub_int, fAdd_int, fPop_go, pop2_ok, ixL_ok, ixO_ok, fIx_goL, fIx_goT, fIx_goO, atI_0, ixN_1_0, ixN_2_0, ixN_3_0, ixN_4_0, ixN_5_0, ixN_6_0, atI_1, ixN_2_1, ixN_3_1, ixN_4_1, ixN_5_1, ixN_6_1, atI_2, ixN_3_2, ixN_4_2, ixN_5_2, ixN_6_2, atI_3, ixN_4_3, ixN_5_3, ixN_6_3, atI_4, ixN_5_4, ixN_6_4, atI_5, ixN_6_5, atI_6, atI_7, atI_8, atI_9, atI_10, atI_11, atI_12, fLen_lst, fLen_tup, fInt1_int, fEqA_int, fEqA_str, fEqA_bl, fNeA_int, fNeA_str, isi_non_bool, isi_bl_bool, isi_int_bool, isi_str_bool, isi_lst_bool, isi_tup_bool, isi_non_int, isi_bl_int, isi_int_int, isi_str_int, isi_lst_int, isi_tup_int, isi_non_str, isi_bl_str, isi_int_str, isi_str_str, isi_lst_str, isi_tup_str, isi_non_list, isi_bl_list, isi_int_list, isi_str_list, isi_lst_list, isi_tup_list, isi_non_tuple, isi_bl_tuple, isi_int_tuple, isi_str_tuple, isi_lst_tuple, isi_tup_tuple, isi_non_dict, isi_bl_dict, isi_int_dict, isi_str_dict, isi_lst_dict, isi_tup_dict, isN_non, isN_bl, isN_int, isN_str, isN_lst, isN_tup, body_eq, bodyK_nx, bodyK_rt, bodyK_ex, rho0, List.map_cons, List.map_nil, List.length_cons, List.length_nil, List.replicate_succ, List.replicate_zero, List.cons_append, List.nil_append, List.append_nil, List.set_cons_succ, List.set_cons_zero, List.getElem?_cons_zero, List.getElem?_cons_succ, Nat.reduceAdd, Nat.reduceSub, Nat.zero_add, Nat.reduceEqDiff, if_true, ite_true, ite_false, eq_self, ite_self, size_eq, and_self, Nat.zero_le, Nat.reduceLeDiff, Bool.not_true, eL, c1', decide_true, decide_false, c1, Bool.true_and, Bool.not_false, Bool.false_and]
theorem name_t {cs : List Nat} {M : Mem} (h1 : 1 ≤ cs.length) (h2 : cs.length ≤ 6) (h3 : ∀ c, c ∈ cs → c ∈ abc) : g_is_name [.str (sg cs)] M = .ok (.bl true) M := by
  rw [is_name_len (by omega), decide_eq_true h1, decide_eq_true h2]
  have : (cs.all fun c => decide (c ∈ abc)) = true := List.all_eq_true.mpr fun c hc => decide_eq_true (h3 c hc)
  rw [this]
  rfl
theorem name_f {cs : List Nat} {M : Mem} (h : cs.length ≤ 16777216) (h1 : cs.length = 0 ∨ 6 < cs.length ∨ ∃ c, c ∈ cs ∧ c ∉ abc) : g_is_name [.str (sg cs)] M = .ok (.bl false) M := by
  rw [is_name_len h]
  rcases h1 with h1 | h1 | ⟨c, hc, hn⟩
  · rw [decide_eq_false (by omega)]
    rfl
  · rw [decide_eq_false (p := cs.length ≤ 6) (by omega), Bool.and_false]
    rfl
  · have : (cs.all fun c => decide (c ∈ abc)) = false := by
      cases e : (cs.all fun c => decide (c ∈ abc)) with
      | false => rfl
      | true => exact absurd (of_decide_eq_true (List.all_eq_true.mp e c hc)) hn
    rw [this, Bool.and_false]
/-- a word of letters -/
def Wo (n : Nat) (cs : List Nat) : Prop := 1 ≤ cs.length ∧ cs.length ≤ n ∧ ∀ c, c ∈ cs → c ∈ abc
theorem mem_put {cs : List Nat} {k c x : Nat} (h : x ∈ cs.take k ++ [c] ++ cs.drop k) : x ∈ cs ∨ x = c := by
  rw [List.mem_append, List.mem_append, List.mem_singleton] at h
  rcases h with (h | h) | h
  · exact .inl (List.mem_of_mem_take h)
  · exact .inr h
  · exact .inl (List.mem_of_mem_drop h)
theorem len_put (cs : List Nat) (k c : Nat) : (cs.take k ++ [c] ++ cs.drop k).length = cs.length + 1 := by
  simp only [List.length_append, List.length_take, List.length_drop, List.length_cons, List.length_nil]
  omega
theorem sign_at {j : Int} {M : Mem} : ∃ c, c ∈ abc ∧ fIx (.str (sg abc)) (.int (j % 26)) M = .ok (.str (sg [c])) M := by
  obtain ⟨n, e⟩ := nat_of (Int.emod_nonneg j (by omega : (26 : Int) ≠ 0))
  have hn : n < abc.length := by
    have := Int.emod_lt_of_pos j (by omega : (0 : Int) < 26)
    show n < 26
    omega
  refine ⟨abc[n], List.getElem_mem hn, ?_⟩
  rw [e]
  exact fIx_str (by rw [sg_len]; decide) (atI_at (List.getElem?_eq_getElem hn))
theorem names_ok {M rest : Mem} (h : BagR M rest) : ∃ (a b c : List Nat) (M' : Mem), g_law_names [.obj 1, .int 3] M = .ok (.lst [.str (sg a), .str (sg b), .str (sg c)]) M' ∧ Wo 4 a ∧ Wo 4 b ∧ Wo 4 c ∧ BagR M' rest := by
  obtain ⟨k, M1, e1, k0, k1, h1⟩ := take_ok (m := 4) h (by omega) (by omega)
  obtain ⟨ys, M2, e2, p2, h2⟩ := lc_inv (ρ := [.val (.obj 1), .val (.int 3), .val (.str (sg abc)), .no, .no, .no, .no]) (mg := mgName 6) (te := mCall 2 gOf [] (mCons (mVar 0) (mCons (mVar 2) mNil))) (fun M => BagR M rest) (fun _ y => ∃ c, y = .str (sg [c]) ∧ c ∈ abc) (intsD 0 k.toNat) M1 h1 (by
    intro d hd M hM
    obtain ⟨c, M', e, hc, hB⟩ := of_str (z := sg abc) hM (by decide) (by decide)
    refine ⟨_, .str (sg [c]), M', rfl, ?_, ⟨c, rfl, hc⟩, hB⟩
    simp only [mVar_go, varK_ok, mC_go, opK2_ok, opK2_exc, opK_ok, opK_exc, mOp_go, mNil_go, consK2_ok, consK2_exc, consK_ok, consK_exc, mCons_go, tupK_ok, tupK_exc, mTup_go, lstK_ok, lstK_exc, mLst_go, ownK_ok, ownK_ok1, ownK_ok2, ownK_exc, mOwn_go, tsK_ok, tsK_exc, mTest_go, andK_ok, andK_ok1, andK_exc, mAnd_go, orK_ok, orK_ok1, orK_exc, mOr_go, notK_ok, notK_exc, mNot_go, mbK_ok, mbK_exc, mB_go, ifeK_ok, ifeK_ok1, ifeK_exc, mIfE_go, mYes_go, mNext_go, seqK_nx, seqK_rt, seqK_bk, seqK_ct, seqK_ex, mSeq_go, ifK_ok, ifK_ok1, ifK_exc, mIfS_go, retK_ok, retK_exc, mRet_go, mRetN_go, dropK_ok, dropK_exc, mDrop_go, mBreak_go, mCont_go, putK_some, asgK_ok, asgK_exc, mAsg_go, mgName_go, mgNil_go, gsK_some, mgCons_go, mgTup_go, parK_ok, parK_exc, mPar_go, setK3_exc, set5_ok, set4_ok, setK3_ok, setK2_ok, setK2_exc, setK_ok, setK_exc, mSetIx_go, popK_ok, popK_exc, mPopAt_go, forGo_nil, forK2_some, forK3_nx, forK3_ct, forK3_bk, forK3_rt, forK3_ex, forK_ok, forK_exc, mFor_go, lcE_ok, lcE_exc, lcK_ok, lcK_exc, mLc_go, wipe_nil, wipe_cons, lcGo_nil, lcK4_ok, lcK3_t, lcK3_f, lcK2_some, rng1K_ok, rng1K_exc, mRng1_go, itK_ok, itK_ok1, itK_ok2, itK_exc, mIAny_go, zipK_ok, zipK_exc, mZip_go, callK_ok, callK_exc, mCall_go, kcK2_ok, kcK2_exc, kcK_ok, kcK_exc, mCallK_go, cbK_ok, cbK_exc, mCB_go, f1_go, chK4_ok, chK4_exc, chK3_ok, chK3_ok1, chK3_exc, chK2_ok, chK2_exc, chK_ok, chK_exc, mChain_go, mNoPart_go, partK_ok, partK_exc, mPart_go, slK3_ok, slK3_exc, slK2_ok, slK2_exc, slK_ok, slK_exc, mSl_go, fSl_str, fSl_lst, fSl_tup, fSl_scr, m1K2_ok, m1K2_exc, m1K_ok, m1K_exc, mM1_go, fLt_int, fLe_int, fGt_int, fGe_int, fSub_int, fAdd_int, fPop_go, pop2_ok, ixL_ok, ixO_ok, fIx_goL, fIx_goT, fIx_goO, atI_0, ixN_1_0, ixN_2_0, ixN_3_0, ixN_4_0, ixN_5_0, ixN_6_0, atI_1, ixN_2_1, ixN_3_1, ixN_4_1, ixN_5_1, ixN_6_1, atI_2, ixN_3_2, ixN_4_2, ixN_5_2, ixN_6_2, atI_3, ixN_4_3, ixN_5_3, ixN_6_3, atI_4, ixN_5_4, ixN_6_4, atI_5, ixN_6_5, atI_6, atI_7, atI_8, atI_9, atI_10, atI_11, atI_12, fLen_lst, fLen_tup, fInt1_int, fEqA_int, fEqA_str, fEqA_bl, fNeA_int, fNeA_str, isi_non_bool, isi_bl_bool, isi_int_bool, isi_str_bool, isi_lst_bool, isi_tup_bool, isi_non_int, isi_bl_int, isi_int_int, isi_str_int, isi_lst_int, isi_tup_int, isi_non_str, isi_bl_str, isi_int_str, isi_str_str, isi_lst_str, isi_tup_str, isi_non_list, isi_bl_list, isi_int_list, isi_str_list, isi_lst_list, isi_tup_list, isi_non_tuple, isi_bl_tuple, isi_int_tuple, isi_str_tuple, isi_lst_tuple, isi_tup_tuple, isi_non_dict, isi_bl_dict, isi_int_dict, isi_str_dict, isi_lst_dict, isi_tup_dict, isN_non, isN_bl, isN_int, isN_str, isN_lst, isN_tup, body_eq, bodyK_nx, bodyK_rt, bodyK_ex, rho0, List.map_cons, List.map_nil, List.length_cons, List.length_nil, List.replicate_succ, List.replicate_zero, List.cons_append, List.nil_append, List.append_nil, List.set_cons_succ, List.set_cons_zero, List.getElem?_cons_zero, List.getElem?_cons_succ, Nat.reduceAdd, Nat.reduceSub, Nat.zero_add, Nat.reduceEqDiff, if_true, ite_true, ite_false, eq_self, ite_self, size_eq, and_self, Nat.zero_le, Nat.reduceLeDiff, e]
    rfl)
  obtain ⟨cs, rfl, hl, hc⟩ := all2_signs p2
  rw [ints_len] at hl
  have l3 : cs.length ≤ 3 := by omega
  have lk : (intsD 0 k.toNat).length ≤ 16777216 := by rw [ints_len]; omega
  have kb : -(2 ^ 62) ≤ k ∧ k < 2 ^ 62 := by omega
  have ej : ∀ M, fJoin (sg []) (.lst (cs.map fun c => .str (sg [c]))) M = .ok (.str (sg cs)) M := fun M => fJoin_sg (by omega)
  obtain ⟨t, M3, e3, t0, t1, h3⟩ := take_ok (m := (cs.length : Int) + 1) h2 (by omega) (by omega)
  obtain ⟨st, M4, e4, _, _, h4⟩ := take_ok (m := 26) h3 (by omega) (by omega)
  obtain ⟨sp, rfl⟩ := nat_of t0
  have hsp : sp ≤ cs.length := by omega
  have eL : ∀ M, fLen (.str (sg cs)) M = .ok (.int cs.length) M := fun M => by rw [fLen_str (by rw [sg_len]; show cs.length ≤ 16777216; omega), sg_len]
  obtain ⟨c0, m0, s0⟩ := sign_at (j := st + 3 * 0) (M := M4)
  obtain ⟨c1, m1, s1⟩ := sign_at (j := st + 3 * 1) (M := M4)
  obtain ⟨c2, m2, s2⟩ := sign_at (j := st + 3 * 2) (M := M4)
  have eM3 : ∀ (i : Int) (M : Mem), fMul (.int 3) (.int i) M = .ok (.int (3 * i)) M := fun i M => fMul_int (by omega)
  have eM26 : ∀ (i : Int) (M : Mem), fMod (.int i) (.int 26) M = .ok (.int (i % 26)) M := fun i M => fMod_int (by omega)
  have lz : (sg cs).length ≤ 16777216 := by rw [sg_len]; omega
  have ca := cut_lo cs sp hsp
  have cb := cut_hi cs sp hsp
  have eA : ∀ (c : Nat) (M : Mem), fAdd (.str (sg (cs.take sp))) (.str (sg [c])) M = .ok (.str (sg (cs.take sp ++ [c]))) M := fun c M => by
    rw [fAdd_str (by rw [sg_len, sg_len, List.length_take]; show _ ≤ 16777216; simp; omega), sg_app]
  have eB : ∀ (c : Nat) (M : Mem), fAdd (.str (sg (cs.take sp ++ [c]))) (.str (sg (cs.drop sp))) M = .ok (.str (sg (cs.take sp ++ [c] ++ cs.drop sp))) M := fun c M => by
    rw [fAdd_str (by rw [sg_len, sg_len]; show _ ≤ 16777216; simp; omega), sg_app]
  have i3 : intsD 0 (Int.toNat 3) = [.int 0, .int 1, .int 2] := rfl
  have kb3 : -(2 ^ 62) ≤ (3 : Int) ∧ (3 : Int) < 2 ^ 62 := by decide
  have wo : ∀ c, c ∈ abc → Wo 4 (cs.take sp ++ [c] ++ cs.drop sp) := fun c hm => ⟨by rw [len_put]; omega, by rw [len_put]; omega, fun x hx => (mem_put hx).elim (hc x) fun e => e ▸ hm⟩
  refine ⟨_, _, _, M4, ?_, wo c0 m0, wo c1 m1, wo c2 m2, h4⟩
  simp only [g_law_names, m_law_names, mVar_go, varK_ok, mC_go, opK2_ok, opK2_exc, opK_ok, opK_exc, mOp_go, mNil_go, consK2_ok, consK2_exc, consK_ok, consK_exc, mCons_go, tupK_ok, tupK_exc, mTup_go, lstK_ok, lstK_exc, mLst_go, ownK_ok, ownK_ok1, ownK_ok2, ownK_exc, mOwn_go, tsK_ok, tsK_exc, mTest_go, andK_ok, andK_ok1, andK_exc, mAnd_go, orK_ok, orK_ok1, orK_exc, mOr_go, notK_ok, notK_exc, mNot_go, mbK_ok, mbK_exc, mB_go, ifeK_ok, ifeK_ok1, ifeK_exc, mIfE_go, mYes_go, mNext_go, seqK_nx, seqK_rt, seqK_bk, seqK_ct, seqK_ex, mSeq_go, ifK_ok, ifK_ok1, ifK_exc, mIfS_go, retK_ok, retK_exc, mRet_go, mRetN_go, dropK_ok, dropK_exc, mDrop_go, mBreak_go, mCont_go, putK_some, asgK_ok, asgK_exc, mAsg_go, mgName_go, mgNil_go, gsK_some, mgCons_go, mgTup_go, parK_ok, parK_exc, mPar_go, setK3_exc, set5_ok, set4_ok, setK3_ok, setK2_ok, setK2_exc, setK_ok, setK_exc, mSetIx_go, popK_ok, popK_exc, mPopAt_go, forGo_nil, forK2_some, forK3_nx, forK3_ct, forK3_bk, forK3_rt, forK3_ex, forK_ok, forK_exc, mFor_go, lcE_ok, lcE_exc, lcK_ok, lcK_exc, mLc_go, wipe_nil, wipe_cons, lcGo_nil, lcK4_ok, lcK3_t, lcK3_f, lcK2_some, rng1K_ok, rng1K_exc, mRng1_go, itK_ok, itK_ok1, itK_ok2, itK_exc, mIAny_go, zipK_ok, zipK_exc, mZip_go, callK_ok, callK_exc, mCall_go, kcK2_ok, kcK2_exc, kcK_ok, kcK_exc, mCallK_go, cbK_ok, cbK_exc, mCB_go, f1_go, chK4_ok, chK4_exc, chK3_ok, chK3_ok1, chK3_exc, chK2_ok, chK2_exc, chK_ok, chK_exc, mChain_go, mNoPart_go, partK_ok, partK_exc, mPart_go, slK3_ok, slK3_exc, slK2_ok, slK2_exc, slK_ok, slK_exc, mSl_go, fSl_str, fSl_lst, fSl_tup, fSl_scr, m1K2_ok, m1K2_exc, m1K_ok, m1K_exc, mM1_go, fLt_int, fLe_int, fGt_int, fGe_int, fSub_int, fAdd_int, fPop_go, pop2_ok, ixL_ok, ixO_ok, fIx_goL, fIx_goT, fIx_goO, atI_0, ixN_1_0, ixN_2_0, ixN_3_0, ixN_4_0, ixN_5_0, ixN_6_0, atI_1, ixN_2_1, ixN_3_1, ixN_4_1, ixN_5_1, ixN_6_1, atI_2, ixN_3_2, ixN_4_2, ixN_5_2, ixN_6_2, atI_3, ixN_4_3, ixN_5_3, ixN_6_3, atI_4, ixN_5_4, ixN_6_4, atI_5, ixN_6_5, atI_6, atI_7, atI_8, atI_9, atI_10, atI_11, atI_12, fLen_lst, fLen_tup, fInt1_int, fEqA_int, fEqA_str, fEqA_bl, fNeA_int, fNeA_str, isi_non_bool, isi_bl_bool, isi_int_bool, isi_str_bool, isi_lst_bool, isi_tup_bool, isi_non_int, isi_bl_int, isi_int_int, isi_str_int, isi_lst_int, isi_tup_int, isi_non_str, isi_bl_str, isi_int_str, isi_str_str, isi_lst_str, isi_tup_str, isi_non_list, isi_bl_list, isi_int_list, isi_str_list, isi_lst_list, isi_tup_list, isi_non_tuple, isi_bl_tuple, isi_int_tuple, isi_str_tuple, isi_lst_tuple, isi_tup_tuple, isi_non_dict, isi_bl_dict, isi_int_dict, isi_str_dict, isi_lst_dict, isi_tup_dict, isN_non, isN_bl, isN_int, isN_str, isN_lst, isN_tup, body_eq, bodyK_nx, bodyK_rt, bodyK_ex, rho0, List.map_cons, List.map_nil, List.length_cons, List.length_nil, List.replicate_succ, List.replicate_zero, List.cons_append, List.nil_append, List.append_nil, List.set_cons_succ, List.set_cons_zero, List.getElem?_cons_zero, List.getElem?_cons_succ, Nat.reduceAdd, Nat.reduceSub, Nat.zero_add, Nat.reduceEqDiff, if_true, ite_true, ite_false, eq_self, ite_self, size_eq, and_self, Nat.zero_le, Nat.reduceLeDiff, lcGo_cons, abc_is, e_is, take_is, of_is, e1, e2, e3, e4, kb, lk, ej, eL, kb3, i3, mgTup_go, lz, ca, cb, eM3, eM26, s0, s1, s2, eA, eB]
theorem w_a : ("a" : Str) = sg [97] := by decide +kernel
theorem w_z : ("zzzzzz" : Str) = sg [122, 122, 122, 122, 122, 122] := by decide +kernel
theorem w_hard : ("hard" : Str) = sg [104, 97, 114, 100] := by decide +kernel
theorem w_source : ("source" : Str) = sg [115, 111, 117, 114, 99, 101] := by decide +kernel
theorem w_voter : ("voter" : Str) = sg [118, 111, 116, 101, 114] := by decide +kernel
theorem w_aaaaaa : ("aaaaaa" : Str) = sg [97, 97, 97, 97, 97, 97] := by decide +kernel
def signs : List D := [.str "A", .str "_", .str "1", .str " ", .str "-", .str "~", .str "\n", .str "Z", .str "."]
theorem signs_ok {d : D} (h : d ∈ signs) : ∃ c, d = .str (sg [c]) ∧ c ∉ abc := by
  have key : ∀ z : Str, (z.cps.toList.length = 1 ∧ z.cps.toList.head! ∉ abc) → ∃ c, D.str z = .str (sg [c]) ∧ c ∉ abc := by
    intro z hz
    obtain ⟨c, hc⟩ := List.length_eq_one_iff.mp hz.1
    rw [sg_self z, hc]
    refine ⟨c, rfl, ?_⟩
    have := hz.2
    rw [hc] at this
    exact this
  simp only [signs, List.mem_cons, List.not_mem_nil, or_false] at h
  rcases h with h | h | h | h | h | h | h | h | h <;> (subst h; exact key _ (by decide +kernel))
theorem nm_x {d : D} {M : Mem} (h : d = .non ∨ (∃ b, d = .bl b) ∨ (∃ i, d = .int i) ∨ (∃ ds, d = .lst ds) ∨ (∃ ds, d = .tup ds)) : g_is_name [d] M = .ok (.bl false) M := by
  rcases h with rfl | ⟨b, rfl⟩ | ⟨b, rfl⟩ | ⟨b, rfl⟩ | ⟨b, rfl⟩ <;> simp only [g_is_name, m_is_name, mVar_go, varK_ok, mC_go, opK2_ok, opK2_exc, opK_ok, opK_exc, mOp_go, mNil_go, consK2_ok, consK2_exc, consK_ok, consK_exc, mCons_go, tupK_ok, tupK_exc, mTup_go, lstK_ok, lstK_exc, mLst_go, ownK_ok, ownK_ok1, ownK_ok2, ownK_exc, mOwn_go, tsK_ok, tsK_exc, mTest_go, andK_ok, andK_ok1, andK_exc, mAnd_go, orK_ok, orK_ok1, orK_exc, mOr_go, notK_ok, notK_exc, mNot_go, mbK_ok, mbK_exc, mB_go, ifeK_ok, ifeK_ok1, ifeK_exc, mIfE_go, mYes_go, mNext_go, seqK_nx, seqK_rt, seqK_bk, seqK_ct, seqK_ex, mSeq_go, ifK_ok, ifK_ok1, ifK_exc, mIfS_go, retK_ok, retK_exc, mRet_go, mRetN_go, dropK_ok, dropK_exc, mDrop_go, mBreak_go, mCont_go, putK_some, asgK_ok, asgK_exc, mAsg_go, mgName_go, mgNil_go, gsK_some, mgCons_go, mgTup_go, parK_ok, parK_exc, mPar_go, setK3_exc, set5_ok, set4_ok, setK3_ok, setK2_ok, setK2_exc, setK_ok, setK_exc, mSetIx_go, popK_ok, popK_exc, mPopAt_go, forGo_nil, forK2_some, forK3_nx, forK3_ct, forK3_bk, forK3_rt, forK3_ex, forK_ok, forK_exc, mFor_go, lcE_ok, lcE_exc, lcK_ok, lcK_exc, mLc_go, wipe_nil, wipe_cons, lcGo_nil, lcK4_ok, lcK3_t, lcK3_f, lcK2_some, rng1K_ok, rng1K_exc, mRng1_go, itK_ok, itK_ok1, itK_ok2, itK_exc, mIAny_go, zipK_ok, zipK_exc, mZip_go, callK_ok, callK_exc, mCall_go, kcK2_ok, kcK2_exc, kcK_ok, kcK_exc, mCallK_go, cbK_ok, cbK_exc, mCB_go, f1_go, chK4_ok, chK4_exc, chK3_ok, chK3_ok1, chK3_exc, chK2_ok, chK2_exc, chK_ok, chK_exc, mChain_go, mNoPart_go, partK_ok, partK_exc, mPart_go, slK3_ok, slK3_exc, slK2_ok, slK2_exc, slK_ok, slK_exc, mSl_go, fSl_str, fSl_lst, fSl_tup, fSl_scr, m1K2_ok, m1K2_exc, m1K_ok, m1K_exc, mM1_go, fLt_int, fLe_int, fGt_int, fGe_int, fSub_int, fAdd_int, fPop_go, pop2_ok, ixL_ok, ixO_ok, fIx_goL, fIx_goT, fIx_goO, atI_0, ixN_1_0, ixN_2_0, ixN_3_0, ixN_4_0, ixN_5_0, ixN_6_0, atI_1, ixN_2_1, ixN_3_1, ixN_4_1, ixN_5_1, ixN_6_1, atI_2, ixN_3_2, ixN_4_2, ixN_5_2, ixN_6_2, atI_3, ixN_4_3, ixN_5_3, ixN_6_3, atI_4, ixN_5_4, ixN_6_4, atI_5, ixN_6_5, atI_6, atI_7, atI_8, atI_9, atI_10, atI_11, atI_12, fLen_lst, fLen_tup, fInt1_int, fEqA_int, fEqA_str, fEqA_bl, fNeA_int, fNeA_str, isi_non_bool, isi_bl_bool, isi_int_bool, isi_str_bool, isi_lst_bool, isi_tup_bool, isi_non_int, isi_bl_int, isi_int_int, isi_str_int, isi_lst_int, isi_tup_int, isi_non_str, isi_bl_str, isi_int_str, isi_str_str, isi_lst_str, isi_tup_str, isi_non_list, isi_bl_list, isi_int_list, isi_str_list, isi_lst_list, isi_tup_list, isi_non_tuple, isi_bl_tuple, isi_int_tuple, isi_str_tuple, isi_lst_tuple, isi_tup_tuple, isi_non_dict, isi_bl_dict, isi_int_dict, isi_str_dict, isi_lst_dict, isi_tup_dict, isN_non, isN_bl, isN_int, isN_str, isN_lst, isN_tup, body_eq, bodyK_nx, bodyK_rt, bodyK_ex, rho0, List.map_cons, List.map_nil, List.length_cons, List.length_nil, List.replicate_succ, List.replicate_zero, List.cons_append, List.nil_append, List.append_nil, List.set_cons_succ, List.set_cons_zero, List.getElem?_cons_zero, List.getElem?_cons_succ, Nat.reduceAdd, Nat.reduceSub, Nat.zero_add, Nat.reduceEqDiff, if_true, ite_true, ite_false, eq_self, ite_self, size_eq, and_self, Nat.zero_le, Nat.reduceLeDiff, Bool.not_false]
theorem law_true : ∀ ns : List Int, ns.length ≤ 63 → ∃ M', g_law [.scr ns] [] = .ok (.bl true) M' := by
  intro ns hn
  obtain ⟨M0, e0, h0⟩ := bag_ok hn
  have i4 : intsD 0 (Int.toNat 4) = [.int 0, .int 1, .int 2, .int 3] := rfl
  have kb4 : -(2 ^ 62) ≤ (4 : Int) ∧ (4 : Int) < 2 ^ 62 := by decide
  simp only [g_law, m_law, mVar_go, varK_ok, mC_go, opK2_ok, opK2_exc, opK_ok, opK_exc, mOp_go, mNil_go, consK2_ok, consK2_exc, consK_ok, consK_exc, mCons_go, tupK_ok, tupK_exc, mTup_go, lstK_ok, lstK_exc, mLst_go, ownK_ok, ownK_ok1, ownK_ok2, ownK_exc, mOwn_go, tsK_ok, tsK_exc, mTest_go, andK_ok, andK_ok1, andK_exc, mAnd_go, orK_ok, orK_ok1, orK_exc, mOr_go, notK_ok, notK_exc, mNot_go, mbK_ok, mbK_exc, mB_go, ifeK_ok, ifeK_ok1, ifeK_exc, mIfE_go, mYes_go, mNext_go, seqK_nx, seqK_rt, seqK_bk, seqK_ct, seqK_ex, mSeq_go, ifK_ok, ifK_ok1, ifK_exc, mIfS_go, retK_ok, retK_exc, mRet_go, mRetN_go, dropK_ok, dropK_exc, mDrop_go, mBreak_go, mCont_go, putK_some, asgK_ok, asgK_exc, mAsg_go, mgName_go, mgNil_go, gsK_some, mgCons_go, mgTup_go, parK_ok, parK_exc, mPar_go, setK3_exc, set5_ok, set4_ok, setK3_ok, setK2_ok, setK2_exc, setK_ok, setK_exc, mSetIx_go, popK_ok, popK_exc, mPopAt_go, forGo_nil, forK2_some, forK3_nx, forK3_ct, forK3_bk, forK3_rt, forK3_ex, forK_ok, forK_exc, mFor_go, lcE_ok, lcE_exc, lcK_ok, lcK_exc, mLc_go, wipe_nil, wipe_cons, lcGo_nil, lcK4_ok, lcK3_t, lcK3_f, lcK2_some, rng1K_ok, rng1K_exc, mRng1_go, itK_ok, itK_ok1, itK_ok2, itK_exc, mIAny_go, zipK_ok, zipK_exc, mZip_go, callK_ok, callK_exc, mCall_go, kcK2_ok, kcK2_exc, kcK_ok, kcK_exc, mCallK_go, cbK_ok, cbK_exc, mCB_go, f1_go, chK4_ok, chK4_exc, chK3_ok, chK3_ok1, chK3_exc, chK2_ok, chK2_exc, chK_ok, chK_exc, mChain_go, mNoPart_go, partK_ok, partK_exc, mPart_go, slK3_ok, slK3_exc, slK2_ok, slK2_exc, slK_ok, slK_exc, mSl_go, fSl_str, fSl_lst, fSl_tup, fSl_scr, m1K2_ok, m1K2_exc, m1K_ok, m1K_exc, mM1_go, fLt_int, fLe_int, fGt_int, fGe_int, fSub_int, fAdd_int, fPop_go, pop2_ok, ixL_ok, ixO_ok, fIx_goL, fIx_goT, fIx_goO, atI_0, ixN_1_0, ixN_2_0, ixN_3_0, ixN_4_0, ixN_5_0, ixN_6_0, atI_1, ixN_2_1, ixN_3_1, ixN_4_1, ixN_5_1, ixN_6_1, atI_2, ixN_3_2, ixN_4_2, ixN_5_2, ixN_6_2, atI_3, ixN_4_3, ixN_5_3, ixN_6_3, atI_4, ixN_5_4, ixN_6_4, atI_5, ixN_6_5, atI_6, atI_7, atI_8, atI_9, atI_10, atI_11, atI_12, fLen_lst, fLen_tup, fInt1_int, fEqA_int, fEqA_str, fEqA_bl, fNeA_int, fNeA_str, isi_non_bool, isi_bl_bool, isi_int_bool, isi_str_bool, isi_lst_bool, isi_tup_bool, isi_non_int, isi_bl_int, isi_int_int, isi_str_int, isi_lst_int, isi_tup_int, isi_non_str, isi_bl_str, isi_int_str, isi_str_str, isi_lst_str, isi_tup_str, isi_non_list, isi_bl_list, isi_int_list, isi_str_list, isi_lst_list, isi_tup_list, isi_non_tuple, isi_bl_tuple, isi_int_tuple, isi_str_tuple, isi_lst_tuple, isi_tup_tuple, isi_non_dict, isi_bl_dict, isi_int_dict, isi_str_dict, isi_lst_dict, isi_tup_dict, isN_non, isN_bl, isN_int, isN_str, isN_lst, isN_tup, body_eq, bodyK_nx, bodyK_rt, bodyK_ex, rho0, List.map_cons, List.map_nil, List.length_cons, List.length_nil, List.replicate_succ, List.replicate_zero, List.cons_append, List.nil_append, List.append_nil, List.set_cons_succ, List.set_cons_zero, List.getElem?_cons_zero, List.getElem?_cons_succ, Nat.reduceAdd, Nat.reduceSub, Nat.zero_add, Nat.reduceEqDiff, if_true, ite_true, ite_false, eq_self, ite_self, size_eq, and_self, Nat.zero_le, Nat.reduceLeDiff, bag_is, e0, kb4, i4]
  refine seq_for (fun ρ M => ∃ a2 a3 a4 a5 a6 a7, ρ = [.val (.scr ns), .val (.obj 1), a2, a3, a4, a5, a6, a7] ∧ BagR M []) ⟨_, _, _, _, _, _, rfl, h0⟩ ?_ ?_
  · rintro d - ρ M ⟨a2, a3, a4, a5, a6, a7, rfl, hB⟩
    obtain ⟨wa, wb, wc, M1, e1, ha, hb, hc, h1⟩ := names_ok hB
    obtain ⟨sp, M2, e2, s0, s1, h2⟩ := take_ok (m := (wa.length : Int) + 1) h1 (by omega) (by have := ha.2.1; omega)
    obtain ⟨sd, M3, e3, hs, h3⟩ := of_lst (ds := signs) h2 (by decide) (by decide)
    obtain ⟨c, rfl, hn⟩ := signs_ok hs
    obtain ⟨sp, rfl⟩ := nat_of s0
    have hsp : sp ≤ wa.length := by omega
    have la := ha.2.1
    have lb := hb.2.1
    have eL : ∀ M, fLen (.str (sg wa)) M = .ok (.int wa.length) M := fun M => by rw [fLen_str (by rw [sg_len]; show wa.length ≤ 16777216; omega), sg_len]
    have eW : ∀ M, fAdd (.lst [.str (sg wa), .str (sg wb), .str (sg wc)]) (.lst [.str (sg [97]), .str (sg [122, 122, 122, 122, 122, 122]), .str (sg [104, 97, 114, 100]), .str (sg [115, 111, 117, 114, 99, 101]), .str (sg [118, 111, 116, 101, 114])]) M = .ok (.lst [.str (sg wa), .str (sg wb), .str (sg wc), .str (sg [97]), .str (sg [122, 122, 122, 122, 122, 122]), .str (sg [104, 97, 114, 100]), .str (sg [115, 111, 117, 114, 99, 101]), .str (sg [118, 111, 116, 101, 114])]) M := fun M => fAdd_lst (by show 3 + 5 ≤ 16777216; omega)
    have eT : ∀ M, fMul (.lst [.bl true]) (.int 8) M = .ok (.lst [.bl true, .bl true, .bl true, .bl true, .bl true, .bl true, .bl true, .bl true]) M := fun M => fMul_lst (by decide)
    have eF : ∀ M, fMul (.lst [.bl false]) (.int 9) M = .ok (.lst [.bl false, .bl false, .bl false, .bl false, .bl false, .bl false, .bl false, .bl false, .bl false]) M := fun M => fMul_lst (by decide)
    have pl : ∀ ds : List D, ds.length ≤ 9 → (∀ d, d ∈ ds → ∃ b, d = .bl b) → PlainD 8 (.lst ds) := fun ds l h => .lst (by omega) fun d hd => by
      obtain ⟨b, rfl⟩ := h d hd
      exact .bl
    have sT : ∀ M, gSame 8 [.lst [.bl true, .bl true, .bl true, .bl true, .bl true, .bl true, .bl true, .bl true], .lst [.bl true, .bl true, .bl true, .bl true, .bl true, .bl true, .bl true, .bl true]] M = .ok (.bl true) M := fun M => same_refl 8 _ M (pl _ (by decide) (by simp))
    have sF : ∀ M, gSame 8 [.lst [.bl false, .bl false, .bl false, .bl false, .bl false, .bl false, .bl false, .bl false, .bl false], .lst [.bl false, .bl false, .bl false, .bl false, .bl false, .bl false, .bl false, .bl false, .bl false]] M = .ok (.bl true) M := fun M => same_refl 8 _ M (pl _ (by decide) (by simp))
    have na : ∀ M, g_is_name [.str (sg wa)] M = .ok (.bl true) M := fun M => name_t ha.1 (by omega) ha.2.2
    have nb : ∀ M, g_is_name [.str (sg wb)] M = .ok (.bl true) M := fun M => name_t hb.1 (by omega) hb.2.2
    have nc : ∀ M, g_is_name [.str (sg wc)] M = .ok (.bl true) M := fun M => name_t hc.1 (by have := hc.2.1; omega) hc.2.2
    have n1 : ∀ M, g_is_name [.str (sg [97])] M = .ok (.bl true) M := fun M => name_t (by decide) (by decide) (by decide)
    have n2 : ∀ M, g_is_name [.str (sg [122, 122, 122, 122, 122, 122])] M = .ok (.bl true) M := fun M => name_t (by decide) (by decide) (by decide)
    have n3 : ∀ M, g_is_name [.str (sg [104, 97, 114, 100])] M = .ok (.bl true) M := fun M => name_t (by decide) (by decide) (by decide)
    have n4 : ∀ M, g_is_name [.str (sg [115, 111, 117, 114, 99, 101])] M = .ok (.bl true) M := fun M => name_t (by decide) (by decide) (by decide)
    have n5 : ∀ M, g_is_name [.str (sg [118, 111, 116, 101, 114])] M = .ok (.bl true) M := fun M => name_t (by decide) (by decide) (by decide)
    have f0 : ∀ M, g_is_name [.str (sg [])] M = .ok (.bl false) M := fun M => name_f (by decide) (.inl rfl)
    have f1 : ∀ M, g_is_name [.str (sg (wa.take sp ++ [c] ++ wa.drop sp))] M = .ok (.bl false) M := fun M => name_f (by rw [len_put]; omega) (.inr (.inr ⟨c, by simp, hn⟩))
    have f2 : ∀ M, g_is_name [.str (sg (wb ++ [97, 97, 97, 97, 97, 97]))] M = .ok (.bl false) M := fun M => name_f (by simp; omega) (.inr (.inl (by have := hb.1; simp; omega)))
    have f3 : ∀ M, g_is_name [.non] M = .ok (.bl false) M := fun M => nm_x (.inl rfl)
    have f4 : ∀ i M, g_is_name [.int i] M = .ok (.bl false) M := fun i M => nm_x (.inr (.inr (.inl ⟨_, rfl⟩)))
    have f5 : ∀ i M, g_is_name [.bl i] M = .ok (.bl false) M := fun i M => nm_x (.inr (.inl ⟨_, rfl⟩))
    have f6 : ∀ i M, g_is_name [.tup i] M = .ok (.bl false) M := fun i M => nm_x (.inr (.inr (.inr (.inr ⟨_, rfl⟩))))
    have f7 : ∀ i M, g_is_name [.lst i] M = .ok (.bl false) M := fun i M => nm_x (.inr (.inr (.inr (.inl ⟨_, rfl⟩))))
    have lz : (sg wa).length ≤ 16777216 := by rw [sg_len]; omega
    have ca := cut_lo wa sp hsp
    have cb := cut_hi wa sp hsp
    have eA : ∀ (M : Mem), fAdd (.str (sg (wa.take sp))) (.str (sg [c])) M = .ok (.str (sg (wa.take sp ++ [c]))) M := fun M => by
      rw [fAdd_str (by rw [sg_len, sg_len, List.length_take]; show _ ≤ 16777216; simp; omega), sg_app]
    have eB : ∀ (M : Mem), fAdd (.str (sg (wa.take sp ++ [c]))) (.str (sg (wa.drop sp))) M = .ok (.str (sg (wa.take sp ++ [c] ++ wa.drop sp))) M := fun M => by
      rw [fAdd_str (by rw [sg_len, sg_len]; show _ ≤ 16777216; simp; omega), sg_app]
    have eC : ∀ (M : Mem), fAdd (.str (sg wb)) (.str (sg [97, 97, 97, 97, 97, 97])) M = .ok (.str (sg (wb ++ [97, 97, 97, 97, 97, 97]))) M := fun M => by
      rw [fAdd_str (by rw [sg_len, sg_len]; show _ ≤ 16777216; simp; omega), sg_app]
    simp only [signs] at e3
    refine ⟨_, rfl, ?_⟩
    simp only [mVar_go, varK_ok, mC_go, opK2_ok, opK2_exc, opK_ok, opK_exc, mOp_go, mNil_go, consK2_ok, consK2_exc, consK_ok, consK_exc, mCons_go, tupK_ok, tupK_exc, mTup_go, lstK_ok, lstK_exc, mLst_go, ownK_ok, ownK_ok1, ownK_ok2, ownK_exc, mOwn_go, tsK_ok, tsK_exc, mTest_go, andK_ok, andK_ok1, andK_exc, mAnd_go, orK_ok, orK_ok1, orK_exc, mOr_go, notK_ok, notK_exc, mNot_go, mbK_ok, mbK_exc, mB_go, ifeK_ok, ifeK_ok1, ifeK_exc, mIfE_go, mYes_go, mNext_go, seqK_nx, seqK_rt, seqK_bk, seqK_ct, seqK_ex, mSeq_go, ifK_ok, ifK_ok1, ifK_exc, mIfS_go, retK_ok, retK_exc, mRet_go, mRetN_go, dropK_ok, dropK_exc, mDrop_go, mBreak_go, mCont_go, putK_some, asgK_ok, asgK_exc, mAsg_go, mgName_go, mgNil_go, gsK_some, mgCons_go, mgTup_go, parK_ok, parK_exc, mPar_go, setK3_exc, set5_ok, set4_ok, setK3_ok, setK2_ok, setK2_exc, setK_ok, setK_exc, mSetIx_go, popK_ok, popK_exc, mPopAt_go, forGo_nil, forK2_some, forK3_nx, forK3_ct, forK3_bk, forK3_rt, forK3_ex, forK_ok, forK_exc, mFor_go, lcE_ok, lcE_exc, lcK_ok, lcK_exc, mLc_go, wipe_nil, wipe_cons, lcGo_nil, lcK4_ok, lcK3_t, lcK3_f, lcK2_some, rng1K_ok, rng1K_exc, mRng1_go, itK_ok, itK_ok1, itK_ok2, itK_exc, mIAny_go, zipK_ok, zipK_exc, mZip_go, callK_ok, callK_exc, mCall_go, kcK2_ok, kcK2_exc, kcK_ok, kcK_exc, mCallK_go, cbK_ok, cbK_exc, mCB_go, f1_go, chK4_ok, chK4_exc, chK3_ok, chK3_ok1, chK3_exc, chK2_ok, chK2_exc, chK_ok, chK_exc, mChain_go, mNoPart_go, partK_ok, partK_exc, mPart_go, slK3_ok, slK3_exc, slK2_ok, slK2_exc, slK_ok, slK_exc, mSl_go, fSl_str, fSl_lst, fSl_tup, fSl_scr, m1K2_ok, m1K2_exc, m1K_ok, m1K_exc, mM1_go, fLt_int, fLe_int, fGt_int, fGe_int, fSub_int, fAdd_int, fPop_go, pop2_ok, ixL_ok, ixO_ok, fIx_goL, fIx_goT, fIx_goO, atI_0, ixN_1_0, ixN_2_0, ixN_3_0, ixN_4_0, ixN_5_0, ixN_6_0, atI_1, ixN_2_1, ixN_3_1, ixN_4_1, ixN_5_1, ixN_6_1, atI_2, ixN_3_2, ixN_4_2, ixN_5_2, ixN_6_2, atI_3, ixN_4_3, ixN_5_3, ixN_6_3, atI_4, ixN_5_4, ixN_6_4, atI_5, ixN_6_5, atI_6, atI_7, atI_8, atI_9, atI_10, atI_11, atI_12, fLen_lst, fLen_tup, fInt1_int, fEqA_int, fEqA_str, fEqA_bl, fNeA_int, fNeA_str, isi_non_bool, isi_bl_bool, isi_int_bool, isi_str_bool, isi_lst_bool, isi_tup_bool, isi_non_int, isi_bl_int, isi_int_int, isi_str_int, isi_lst_int, isi_tup_int, isi_non_str, isi_bl_str, isi_int_str, isi_str_str, isi_lst_str, isi_tup_str, isi_non_list, isi_bl_list, isi_int_list, isi_str_list, isi_lst_list, isi_tup_list, isi_non_tuple, isi_bl_tuple, isi_int_tuple, isi_str_tuple, isi_lst_tuple, isi_tup_tuple, isi_non_dict, isi_bl_dict, isi_int_dict, isi_str_dict, isi_lst_dict, isi_tup_dict, isN_non, isN_bl, isN_int, isN_str, isN_lst, isN_tup, body_eq, bodyK_nx, bodyK_rt, bodyK_ex, rho0, List.map_cons, List.map_nil, List.length_cons, List.length_nil, List.replicate_succ, List.replicate_zero, List.cons_append, List.nil_append, List.append_nil, List.set_cons_succ, List.set_cons_zero, List.getElem?_cons_zero, List.getElem?_cons_succ, Nat.reduceAdd, Nat.reduceSub, Nat.zero_add, Nat.reduceEqDiff, if_true, ite_true, ite_false, eq_self, ite_self, size_eq, and_self, Nat.zero_le, Nat.reduceLeDiff, lcGo_cons, w_a, w_z, w_hard, w_source, w_voter, w_aaaaaa, e_is, e1, eW, eL, take_is, of_is, e2, e3, lz, ca, cb, eA, eB, eC, na, nb, nc, n1, n2, n3, n4, n5, f0, f1, f2, f3, f4, f5, f6, f7, eT, eF, same_is, sT, sF, Bool.not_true, nxI_ok]
    exact ⟨_, _, _, _, _, _, rfl, h3⟩
  · rintro ρ M ⟨a2, a3, a4, a5, a6, a7, rfl, hB⟩
    exact ⟨M, by simp only [mVar_go, varK_ok, mC_go, opK2_ok, opK2_exc, opK_ok, opK_exc, mOp_go, mNil_go, consK2_ok, consK2_exc, consK_ok, consK_exc, mCons_go, tupK_ok, tupK_exc, mTup_go, lstK_ok, lstK_exc, mLst_go, ownK_ok, ownK_ok1, ownK_ok2, ownK_exc, mOwn_go, tsK_ok, tsK_exc, mTest_go, andK_ok, andK_ok1, andK_exc, mAnd_go, orK_ok, orK_ok1, orK_exc, mOr_go, notK_ok, notK_exc, mNot_go, mbK_ok, mbK_exc, mB_go, ifeK_ok, ifeK_ok1, ifeK_exc, mIfE_go, mYes_go, mNext_go, seqK_nx, seqK_rt, seqK_bk, seqK_ct, seqK_ex, mSeq_go, ifK_ok, ifK_ok1, ifK_exc, mIfS_go, retK_ok, retK_exc, mRet_go, mRetN_go, dropK_ok, dropK_exc, mDrop_go, mBreak_go, mCont_go, putK_some, asgK_ok, asgK_exc, mAsg_go, mgName_go, mgNil_go, gsK_some, mgCons_go, mgTup_go, parK_ok, parK_exc, mPar_go, setK3_exc, set5_ok, set4_ok, setK3_ok, setK2_ok, setK2_exc, setK_ok, setK_exc, mSetIx_go, popK_ok, popK_exc, mPopAt_go, forGo_nil, forK2_some, forK3_nx, forK3_ct, forK3_bk, forK3_rt, forK3_ex, forK_ok, forK_exc, mFor_go, lcE_ok, lcE_exc, lcK_ok, lcK_exc, mLc_go, wipe_nil, wipe_cons, lcGo_nil, lcK4_ok, lcK3_t, lcK3_f, lcK2_some, rng1K_ok, rng1K_exc, mRng1_go, itK_ok, itK_ok1, itK_ok2, itK_exc, mIAny_go, zipK_ok, zipK_exc, mZip_go, callK_ok, callK_exc, mCall_go, kcK2_ok, kcK2_exc, kcK_ok, kcK_exc, mCallK_go, cbK_ok, cbK_exc, mCB_go, f1_go, chK4_ok, chK4_exc, chK3_ok, chK3_ok1, chK3_exc, chK2_ok, chK2_exc, chK_ok, chK_exc, mChain_go, mNoPart_go, partK_ok, partK_exc, mPart_go, slK3_ok, slK3_exc, slK2_ok, slK2_exc, slK_ok, slK_exc, mSl_go, fSl_str, fSl_lst, fSl_tup, fSl_scr, m1K2_ok, m1K2_exc, m1K_ok, m1K_exc, mM1_go, fLt_int, fLe_int, fGt_int, fGe_int, fSub_int, fAdd_int, fPop_go, pop2_ok, ixL_ok, ixO_ok, fIx_goL, fIx_goT, fIx_goO, atI_0, ixN_1_0, ixN_2_0, ixN_3_0, ixN_4_0, ixN_5_0, ixN_6_0, atI_1, ixN_2_1, ixN_3_1, ixN_4_1, ixN_5_1, ixN_6_1, atI_2, ixN_3_2, ixN_4_2, ixN_5_2, ixN_6_2, atI_3, ixN_4_3, ixN_5_3, ixN_6_3, atI_4, ixN_5_4, ixN_6_4, atI_5, ixN_6_5, atI_6, atI_7, atI_8, atI_9, atI_10, atI_11, atI_12, fLen_lst, fLen_tup, fInt1_int, fEqA_int, fEqA_str, fEqA_bl, fNeA_int, fNeA_str, isi_non_bool, isi_bl_bool, isi_int_bool, isi_str_bool, isi_lst_bool, isi_tup_bool, isi_non_int, isi_bl_int, isi_int_int, isi_str_int, isi_lst_int, isi_tup_int, isi_non_str, isi_bl_str, isi_int_str, isi_str_str, isi_lst_str, isi_tup_str, isi_non_list, isi_bl_list, isi_int_list, isi_str_list, isi_lst_list, isi_tup_list, isi_non_tuple, isi_bl_tuple, isi_int_tuple, isi_str_tuple, isi_lst_tuple, isi_tup_tuple, isi_non_dict, isi_bl_dict, isi_int_dict, isi_str_dict, isi_lst_dict, isi_tup_dict, isN_non, isN_bl, isN_int, isN_str, isN_lst, isN_tup, body_eq, bodyK_nx, bodyK_rt, bodyK_ex, rho0, List.map_cons, List.map_nil, List.length_cons, List.length_nil, List.replicate_succ, List.replicate_zero, List.cons_append, List.nil_append, List.append_nil, List.set_cons_succ, List.set_cons_zero, List.getElem?_cons_zero, List.getElem?_cons_succ, Nat.reduceAdd, Nat.reduceSub, Nat.zero_add, Nat.reduceEqDiff, if_true, ite_true, ite_false, eq_self, ite_self, size_eq, and_self, Nat.zero_le, Nat.reduceLeDiff]⟩
end G

set_option maxHeartbeats 0
namespace G
open PySem PySem.Spec PyProof.Rows L2 DL
abbrev R : PySem.W.OpenRow := PySem.W.OpenLaw.row PySem.Challenge.rw_outvoted_k02_names
abbrev hk : PySem.W.Hook := He.hookD 8 fa fn
def ob (s : PySem.W.SharedT) : He.AlD := He.obsDG 8 fa fn (HandSHeadRun.getT s)
theorem ob_eq (s : PySem.W.SharedT) : ob s = hk.obs s.abs := He.obsDG_eq (HandSHeadRun.getT_eq s)
theorem run (w : World) : HandSHeadRun.RunEq R (PySem.W.view R.prog [10]) hk ob 20000 loose w := by
  intro os
  kernel_rfl
theorem facts {P : Program} {w : World} {K : PySem.W.Frag} {h : Heap} {mg : Str → Option Value} {f : Addr} (X : K.In h) (G : h.Ns mainGlobals mg) (hfa : mg ("law" : Str) = some (.ref f)) (c : He.SaysD fa fn K) :
    ∃ fd : FuncData, (∀ (s : Shared) (v : Value), BindsTo s fd ⟨[v], []⟩ [("_law_script", v)]) ∧ ∀ base : Heap, FnOk P w K mg base (L2.CX P w) 10 f fd ["_law_script"] (spD K 1 g_law) := by
  have T : Top fa fn K mg := ⟨⟨h, X, G⟩, c⟩
  obtain ⟨fd, F, _⟩ := ok_law (P := P) (w := w) (base := h) T
  refine ⟨fd, fun s v => FunD.bindsA (ps := ["_law_script"]) F (fun _ _ _ _ _ _ us hl => match us, hl with | [_], _ => rfl) s [v] rfl, fun base => ?_⟩
  obtain ⟨fd2, F2, G2⟩ := ok_law (P := P) (w := w) (base := base) T
  have e := hfa.symm.trans G2.mgx
  cases e
  have e2 : fd2 = fd := by
    obtain ⟨_, _, _, _, _, _, _, _, _, _, e1, l1, _⟩ := F.ex
    obtain ⟨_, _, _, _, _, _, _, _, _, _, e2, l2, _⟩ := F2.ex
    rw [l1] at l2
    cases l2
    rfl
  rw [← e2]
  exact G2.ok
end G
open PySem PySem.W PySem.Calls PyProof.Rows
theorem PySem.Challenge.cw_outvoted_k02_names_holds : PySem.Challenge.rw_outvoted_k02_names.Holds := by
  w_on; o_law
  refine HandSHeadRun.head_any (r := OpenLaw.row PySem.Challenge.rw_outvoted_k02_names) (q := view (OpenLaw.row PySem.Challenge.rw_outvoted_k02_names).prog [10]) (H := G.hk) (ob := G.ob) (M := 20000) (loose := G.loose) (d := HandSHeadRun.topDef (OpenLaw.row PySem.Challenge.rw_outvoted_k02_names).prog 10) (kwd := []) G.ob_eq
    (by kernel_rfl) (fun s => by kernel_rfl) G.run (by kernel_rfl) (by kernel_rfl) (by kernel_rfl) (by rfl) (by first | assumption | decide +kernel) (by decide +kernel) ⟨rfl, rfl, rfl, rfl, rfl, by decide +kernel⟩ ?hw ?hc
  case hw => w_witness2
  case hc =>
    refine DL.walk_data (l := PySem.Challenge.rw_outvoted_k02_names) (k := 10) (x := "_law_script") (g := G.g_law) rfl (by kernel_rfl) ⟨rfl, by decide, by decide⟩ G.law_true ?F
    intro w mg fa h Y Gn hmg0
    obtain ⟨K, KX, c⟩ := Y
    have hmg : mg ("law" : PySem.Str) = some (.ref fa) := by
      have e : (HandSHeadRun.topDef (OpenLaw.row PySem.Challenge.rw_outvoted_k02_names).prog 10).name = ("law" : PySem.Str) := by kernel_rfl
      rw [← e]
      exact hmg0
    obtain ⟨fd, hb, hF⟩ := G.facts (P := (PySem.Challenge.rw_outvoted_k02_names).prog) (w := w) KX Gn hmg c
    exact ⟨K, fd, KX, hb, hF⟩
