import PyProof.Rows.All
import PySem.Challenge.RW_outvoted_k04_parts_refused
import Wide.All
import OpenK.AllK
import Wide.FinOn
import HandS.ForMost
import HandS.More
import HandS.WordsExc
import HandS.Defaults
import HandS.HeadHook1
import HandS.Nested
import KE.KDflt
import HandS.IsInst
import HandS.Deep
import HandS.Wide
import HandS.CallSlots
import HandS.TupAny
import HandS.TupMul
import HandS.Zip
import HandS.Iter
import HandS.MakeKwOnly
import HandS.HeadHook2
import HandS.HeadEnd
import HandS.Head0
import HandS.Head1
import HandS.Head2
import HandS.NestedK
import KE.KSuper
import HandS.Star
import HandS.HeadHook4
import HandS.Property
import HandS.MakeKw
import KE.KStar
import HandS.FStr
import HandS.FStrTup
import HandS.OwnEq
import HandS.Conv
import PyProof.StrBlock2
import HandS.Dict
import HandS.Small
import HandS.Walk
import HandS.ClsMeth
import HandS.RaiseMore
import KE.KExcSuper
import HandS.ExcField
import HandS.ExcInit
import HandS.HotCalls
import HandS.HeadWalk
import HandS.Style
import HandS.TryOnly
set_option Elab.async false
set_option linter.all false
set_option maxRecDepth 100000
section
set_option maxHeartbeats 4000000
namespace DL
open PySem PySem.Spec PyProof.Rows L2

/-- a lambda's own text: its name, parameters, body, names; what its parameters are by default; the names that it captures -/
structure LamC where
  id : Nat
  qual : Str
  params : Arguments
  body : Expr
  scope : Scope
  dfl : List V
  caps : List Str
instance : Inhabited LamC := ⟨⟨0, "", ⟨[], [], none, [], [], none, []⟩, .Constant .none 0 default, default, [], []⟩⟩
/-- the object at f is the lambda F over the cells cl, with the code object c and the defaults dv -/
def LamO (f : Addr) (F : LamC) (cl : List (Str × Addr)) (dv : Value) (c : Addr) : HO := .ext fun h => ∃ (od : Option Addr) (sl : Array (Option Value)) (doc pm ctv : Value),
  h.get? f = some (⟨.type "function", od, .func (PySem.W.kdv_fn "<lambda>" F.qual F.params (.expr F.body) F.scope cl dv doc pm (.ref c) ctv), sl⟩ : Obj)
/-- its defaults -/
def DflOk (H : Hp) (bad : Addr → Prop) (dfl : List V) (dv : Value) : Prop := (dfl = [] ∧ dv = .none) ∨ (dfl ≠ [] ∧ ∃ t, dv = .ref t ∧ H t = some (.tup dfl) ∧ ¬ bad t)
/-- the object at a is an exception of the class cls with the dict at d -/
def ExnO (a : Addr) (cls : Value) (d : Addr) : HO := .ext fun h => ∃ (oe : Obj) (vs : Array Value), h.get? a = some oe ∧ Zc cls (some d) oe ∧ oe.data = .fields vs
/-- a frozen object that nothing reads -/
abbrev CelO (o : Obj) : HO := .frz o (.own 0)
/-- a value with all that hangs on it; obj i: the i-th thing that may change; lam: a lambda over this frame's cells; exn: an exception held as a value -/
inductive D where
  | non | bl (b : Bool) | int (i : Int) | str (s : Str) | ty (n : String) | cls (c : Str)
  | lst (xs : List D) | tup (xs : List D) | dct (ks : List Key) (vs : List D) | ins (c : Str) (ns : List Str) (vs : List D) | obj (i : Nat) | scr (ns : List Int)
  | lam (F : LamC) (cl : List (Str × Addr)) | exn (c : Str) (ns : List Str) (vs : List D)
  deriving Inhabited
inductive MO where
  | dead | lst (xs : List D) | dct (ks : List Key) (vs : List D) | ins (c : Str) (ns : List Str) (vs : List D) | tbl (P : Addr) (q : Str)
  deriving Inhabited
abbrev Mem := List MO

structure Wd where
  H : Hp
  ad : List Addr
  bad : Addr → Prop

def KTp (K : PySem.W.Frag) (a : Addr) (xs : List V) : Prop :=
  ∃ (o : Obj) (its : Array Value) (n : Nat), K.lookup a = some o ∧ o.cls = .type "tuple" ∧ o.data = .seq its n ∧ its.size ≤ sizeLine ∧ Vals xs its.toList
def KLs (K : PySem.W.Frag) (a : Addr) (xs : List V) : Prop :=
  ∃ (o : Obj) (its : Array Value) (n : Nat), K.lookup a = some o ∧ o.cls = .type "list" ∧ o.dict = none ∧ o.data = .seq its n ∧ its.size ≤ sizeLine ∧ Vals xs its.toList
def LsAt (W : Wd) (a : Addr) (xs : List V) : Prop := W.H a = some (.lst xs) ∧ ¬ W.bad a
def TpAt (K : PySem.W.Frag) (W : Wd) (a : Addr) (xs : List V) : Prop := (Rd W.H a (.tup xs) ∧ ¬ W.bad a) ∨ KTp K a xs
theorem LsAt.sq {K : PySem.W.Frag} {W : Wd} {a : Addr} {xs : List V} (h : LsAt W a xs) : SqL K W.H a xs := SqL.of h.1
theorem TpAt.sq {K : PySem.W.Frag} {W : Wd} {a : Addr} {xs : List V} (h : TpAt K W a xs) : SqT K W.H a xs := h.imp (fun z => z.1) id

mutual
def Rp (K : PySem.W.Frag) (W : Wd) : D → V → Prop
  | .non, v => v = .non
  | .bl b, v => v = .bl b
  | .int i, v => v = .int i
  | .str s, v => v = .str s
  | .ty n, v => v = .ty n
  | .cls c, v => v = .ref (He.ga K c)
  | .obj i, v => ∃ a, v = .ref a ∧ W.ad[i]? = some a
  | .scr ns, v => ∃ a, v = .ref a ∧ ((Rd W.H a (.lst (ns.map V.int)) ∧ ¬ W.bad a) ∨ KLs K a (ns.map V.int))
  | .lst ds, v => ∃ a vs, v = .ref a ∧ LsAt W a vs ∧ RpL K W ds vs
  | .tup ds, v => ∃ a vs, v = .ref a ∧ TpAt K W a vs ∧ RpL K W ds vs
  | .dct ks ds, v => ∃ a es, v = .ref a ∧ W.H a = some (.dK es) ∧ ¬ W.bad a ∧ es.map (·.1) = ks ∧ RpL K W ds (es.map (·.2))
  | .ins c ns ds, v => ∃ a dx es, v = .ref a ∧ W.H a = some (.ins (He.ga K c) dx es) ∧ ¬ W.bad a ∧ es.map (·.1) = ns ∧ RpL K W ds (es.map (·.2))
  | .lam F cl, v => ∃ f c dv, v = .ref f ∧ W.H f = some (LamO f F cl dv c) ∧ ¬ W.bad f ∧ W.H c = some (LamX.CodeO c F.qual) ∧ ¬ W.bad c ∧ DflOk W.H W.bad F.dfl dv
  | .exn c ns ds, v => ∃ a d es, v = .ref a ∧ W.H a = some (ExnO a (.ref (He.ga K c)) d) ∧ ¬ W.bad a ∧ W.H d = some (.xd es) ∧ ¬ W.bad d ∧ es.map (·.1) = ns ∧ RpL K W ds (es.map (·.2))
def RpL (K : PySem.W.Frag) (W : Wd) : List D → List V → Prop
  | [], vs => vs = []
  | d :: ds, vs => ∃ v r, vs = v :: r ∧ Rp K W d v ∧ RpL K W ds r
end

section
variable {K : PySem.W.Frag} {W W' : Wd}
/-- nothing that is kept is changed -/
structure Le (W W' : Wd) : Prop where
  pre : ∃ e, W'.ad = W.ad ++ e
  keep : ∀ a o, W.H a = some o → ¬ W.bad a → W'.H a = some o ∧ ¬ W'.bad a
theorem Le.refl (W : Wd) : Le W W := ⟨⟨[], by simp⟩, fun _ _ h n => ⟨h, n⟩⟩
theorem Le.trans {W W1 W2 : Wd} (a : Le W W1) (b : Le W1 W2) : Le W W2 := by
  obtain ⟨e1, h1⟩ := a.pre
  obtain ⟨e2, h2⟩ := b.pre
  exact ⟨⟨e1 ++ e2, by rw [h2, h1, List.append_assoc]⟩, fun c o h n => let ⟨h', n'⟩ := a.keep c o h n; b.keep c o h' n'⟩
theorem Le.ix (l : Le W W') {i : Nat} {a : Addr} (h : W.ad[i]? = some a) : W'.ad[i]? = some a := by
  obtain ⟨e, h2⟩ := l.pre
  rw [h2, List.getElem?_append_left (List.getElem?_eq_some_iff.mp h).1]
  exact h
theorem Le.rd (l : Le W W') {a : Addr} {u : HO} (h : Rd W.H a u) (n : ¬ W.bad a) : Rd W'.H a u ∧ ¬ W'.bad a := by
  rcases h with h | ⟨o, h⟩
  · obtain ⟨h', n'⟩ := l.keep _ _ h n
    exact ⟨.inl h', n'⟩
  · obtain ⟨h', n'⟩ := l.keep _ _ h n
    exact ⟨.inr ⟨o, h'⟩, n'⟩
theorem LsAt.le (l : Le W W') {a : Addr} {xs : List V} (h : LsAt W a xs) : LsAt W' a xs := l.keep _ _ h.1 h.2
theorem TpAt.le (l : Le W W') {a : Addr} {xs : List V} (h : TpAt K W a xs) : TpAt K W' a xs := h.imp (fun z => l.rd z.1 z.2) id
mutual
theorem Rp.le (l : Le W W') : ∀ (d : D) {v : V}, Rp K W d v → Rp K W' d v
  | .non, _, h => by simpa [Rp] using h
  | .bl _, _, h => by simpa [Rp] using h
  | .int _, _, h => by simpa [Rp] using h
  | .str _, _, h => by simpa [Rp] using h
  | .ty _, _, h => by simpa [Rp] using h
  | .cls _, _, h => by simpa [Rp] using h
  | .obj i, _, h => by
    obtain ⟨a, e, h⟩ := (by simpa only [Rp] using h : ∃ a, _ = V.ref a ∧ W.ad[i]? = some a)
    simp only [Rp]
    exact ⟨a, e, l.ix h⟩
  | .scr ns, _, h => by
    simp only [Rp] at h ⊢
    obtain ⟨a, e, h1⟩ := h
    exact ⟨a, e, h1.imp (fun z => l.rd z.1 z.2) id⟩
  | .lst ds, _, h => by
    simp only [Rp] at h ⊢
    obtain ⟨a, vs, e, h1, h2⟩ := h
    exact ⟨a, vs, e, h1.le l, RpL.le l ds h2⟩
  | .tup ds, _, h => by
    simp only [Rp] at h ⊢
    obtain ⟨a, vs, e, h1, h2⟩ := h
    exact ⟨a, vs, e, h1.le l, RpL.le l ds h2⟩
  | .dct ks ds, _, h => by
    simp only [Rp] at h ⊢
    obtain ⟨a, es, e, h1, h2, h3, h4⟩ := h
    obtain ⟨g1, g2⟩ := l.keep _ _ h1 h2
    exact ⟨a, es, e, g1, g2, h3, RpL.le l ds h4⟩
  | .ins c ns ds, _, h => by
    simp only [Rp] at h ⊢
    obtain ⟨a, dx, es, e, h1, h2, h3, h4⟩ := h
    obtain ⟨g1, g2⟩ := l.keep _ _ h1 h2
    exact ⟨a, dx, es, e, g1, g2, h3, RpL.le l ds h4⟩
  | .lam F cl, _, h => by
    simp only [Rp] at h ⊢
    obtain ⟨f, c, dv, e, h1, n1, h2, n2, h3⟩ := h
    obtain ⟨g1, m1⟩ := l.keep _ _ h1 n1
    obtain ⟨g2, m2⟩ := l.keep _ _ h2 n2
    exact ⟨f, c, dv, e, g1, m1, g2, m2, h3.imp id fun ⟨ne, t, et, q, nq⟩ => ⟨ne, t, et, l.keep _ _ q nq⟩⟩
  | .exn c ns ds, _, h => by
    simp only [Rp] at h ⊢
    obtain ⟨a, d, es, e, h1, n1, h2, n2, h3, h4⟩ := h
    obtain ⟨g1, m1⟩ := l.keep _ _ h1 n1
    obtain ⟨g2, m2⟩ := l.keep _ _ h2 n2
    exact ⟨a, d, es, e, g1, m1, g2, m2, h3, RpL.le l ds h4⟩
theorem RpL.le (l : Le W W') : ∀ (ds : List D) {vs : List V}, RpL K W ds vs → RpL K W' ds vs
  | [], _, h => by simpa [RpL] using h
  | d :: ds, _, h => by
    simp only [RpL] at h ⊢
    obtain ⟨v, r, e, h1, h2⟩ := h
    exact ⟨v, r, e, Rp.le l d h1, RpL.le l ds h2⟩
end
theorem RpL.nil : RpL K W [] [] := by simp [RpL]
theorem RpL.nilI {vs : List V} (h : RpL K W [] vs) : vs = [] := by simpa only [RpL] using h
theorem RpL.consI {d : D} {ds : List D} {vs : List V} (h : RpL K W (d :: ds) vs) : ∃ v r, vs = v :: r ∧ Rp K W d v ∧ RpL K W ds r := by simpa only [RpL] using h
theorem RpL.cons {d : D} {ds : List D} {v : V} {vs : List V} (h : Rp K W d v) (r : RpL K W ds vs) : RpL K W (d :: ds) (v :: vs) := by
  simp only [RpL]
  exact ⟨v, vs, rfl, h, r⟩
theorem RpL.len : ∀ {ds : List D} {vs : List V}, RpL K W ds vs → vs.length = ds.length
  | [], _, h => by
    have e := h.nilI
    rw [e]
    rfl
  | _ :: ds, _, h => by
    simp only [RpL] at h
    obtain ⟨v, r, e, _, h2⟩ := h
    rw [e, List.length_cons, List.length_cons, h2.len]
theorem RpL.get : ∀ {ds : List D} {vs : List V} {i : Nat} {d : D}, RpL K W ds vs → ds[i]? = some d → ∃ v, vs[i]? = some v ∧ Rp K W d v
  | [], _, _, _, _, e => by simp at e
  | x :: ds, _, 0, d, h, e => by
    simp only [RpL] at h
    obtain ⟨v, r, q, h1, h2⟩ := h
    simp at e
    subst e
    subst q
    exact ⟨v, rfl, h1⟩
  | x :: ds, _, i + 1, d, h, e => by
    simp only [RpL] at h
    obtain ⟨v, r, q, h1, h2⟩ := h
    subst q
    obtain ⟨u, h3, h4⟩ := RpL.get (i := i) h2 (by simpa using e)
    exact ⟨u, by simpa using h3, h4⟩
theorem RpL.get' : ∀ {ds : List D} {vs : List V} {i : Nat} {v : V}, RpL K W ds vs → vs[i]? = some v → ∃ d, ds[i]? = some d ∧ Rp K W d v
  | [], _, _, _, h, e => by
    have q := h.nilI
    rw [q] at e
    simp at e
  | x :: ds, _, 0, v, h, e => by
    simp only [RpL] at h
    obtain ⟨w, r, q, h1, h2⟩ := h
    subst q
    simp at e
    subst e
    exact ⟨x, rfl, h1⟩
  | x :: ds, _, i + 1, v, h, e => by
    simp only [RpL] at h
    obtain ⟨w, r, q, h1, h2⟩ := h
    subst q
    obtain ⟨u, h3, h4⟩ := RpL.get' (i := i) h2 (by simpa using e)
    exact ⟨u, by simpa using h3, h4⟩
theorem RpL.append : ∀ {ds es : List D} {vs ws : List V}, RpL K W ds vs → RpL K W es ws → RpL K W (ds ++ es) (vs ++ ws)
  | [], _, _, _, h, h' => by
    have q := h.nilI
    rw [q]
    exact h'
  | x :: ds, _, _, _, h, h' => by
    simp only [RpL] at h
    obtain ⟨w, r, q, h1, h2⟩ := h
    subst q
    exact RpL.cons h1 (h2.append h')
theorem RpL.take : ∀ {ds : List D} {vs : List V} (n : Nat), RpL K W ds vs → RpL K W (ds.take n) (vs.take n)
  | _, _, 0, _ => by simp [RpL]
  | [], _, _ + 1, h => by
    have q := h.nilI
    rw [q]
    simp [RpL]
  | x :: ds, _, n + 1, h => by
    simp only [RpL] at h
    obtain ⟨w, r, q, h1, h2⟩ := h
    subst q
    exact RpL.cons h1 (h2.take n)
theorem RpL.drop : ∀ {ds : List D} {vs : List V} (n : Nat), RpL K W ds vs → RpL K W (ds.drop n) (vs.drop n)
  | _, _, 0, h => h
  | [], _, _ + 1, h => by
    have q := h.nilI
    rw [q]
    simp [RpL]
  | x :: ds, _, n + 1, h => by
    simp only [RpL] at h
    obtain ⟨w, r, q, h1, h2⟩ := h
    subst q
    exact h2.drop n
theorem RpL.set {d : D} {v : V} (hd : Rp K W d v) : ∀ {ds : List D} {vs : List V} (i : Nat), RpL K W ds vs → RpL K W (ds.set i d) (vs.set i v)
  | [], _, _, h => by
    have q := h.nilI
    rw [q]
    simp [RpL]
  | x :: ds, _, 0, h => by
    simp only [RpL] at h
    obtain ⟨w, r, q, h1, h2⟩ := h
    subst q
    exact RpL.cons hd h2
  | x :: ds, _, i + 1, h => by
    simp only [RpL] at h
    obtain ⟨w, r, q, h1, h2⟩ := h
    subst q
    exact RpL.cons h1 (h2.set hd i)
end

def lvI (M : Mem) (i : Nat) : Prop := ∃ o, M[i]? = some o ∧ o ≠ .dead
def badOf (hid : Addr → Prop) (M : Mem) (ad : List Addr) (a : Addr) : Prop := hid a ∨ ∃ i, lvI M i ∧ ad[i]? = some a
abbrev wd (hid : Addr → Prop) (M : Mem) (ad : List Addr) (H : Hp) : Wd := ⟨H, ad, badOf hid M ad⟩
def MOk (K : PySem.W.Frag) (W : Wd) (a : Addr) : MO → Prop
  | .dead => True
  | .lst ds => ∃ vs, W.H a = some (.lst vs) ∧ RpL K W ds vs
  | .dct ks ds => ∃ es, W.H a = some (.dK es) ∧ es.map (·.1) = ks ∧ RpL K W ds (es.map (·.2))
  | .ins c ns ds => ∃ dx es, W.H a = some (.ins (He.ga K c) dx es) ∧ es.map (·.1) = ns ∧ RpL K W ds (es.map (·.2))
  | .tbl P q => a = P ∧ ∃ ps, W.H a = some (.tbl ps) ∧ TriplesOk ps.toList ∧ ∀ (pos : Pos) (cv : Value), codeAmong pos ps.toList = some cv → ∃ c, cv = .ref c ∧ W.H c = some (LamX.CodeO c q) ∧ ¬ W.bad c
structure Ok (K : PySem.W.Frag) (hid : Addr → Prop) (M : Mem) (ad : List Addr) (H : Hp) : Prop where
  len : ad.length = M.length
  inj : ∀ (i j : Nat) (a : Addr), lvI M i → lvI M j → ad[i]? = some a → ad[j]? = some a → i = j
  nh : ∀ (i : Nat) (a : Addr), lvI M i → ad[i]? = some a → ¬ hid a
  ob : ∀ (i : Nat) (o : MO) (a : Addr), M[i]? = some o → ad[i]? = some a → MOk K (wd hid M ad H) a o
  hh : ∀ a, hid a → H a ≠ none
/-- what a part of a run leaves -/
structure Fr (hid : Addr → Prop) (M : Mem) (ad : List Addr) (H : Hp) (M' : Mem) (ad' : List Addr) (H' : Hp) : Prop where
  le : Le (wd hid M ad H) (wd hid M' ad' H')
  hidk : ∀ a, hid a → H' a = H a
  dom : ∀ a, H a ≠ none → H' a ≠ none
section
variable {K : PySem.W.Frag} {hid : Addr → Prop} {M M1 M2 : Mem} {ad ad1 ad2 : List Addr} {H H1 H2 : Hp}
theorem Fr.refl : Fr hid M ad H M ad H := ⟨Le.refl _, fun _ _ => rfl, fun _ h => h⟩
theorem Fr.trans (a : Fr hid M ad H M1 ad1 H1) (b : Fr hid M1 ad1 H1 M2 ad2 H2) : Fr hid M ad H M2 ad2 H2 :=
  ⟨a.le.trans b.le, fun c h => (b.hidk c h).trans (a.hidk c h), fun c h => b.dom c (a.dom c h)⟩
theorem Fr.none (a : Fr hid M ad H M1 ad1 H1) {p : Addr} (h : H1 p = Option.none) : H p = Option.none := by
  cases e : H p with
  | none => rfl
  | some o => exact absurd h (a.dom p (by rw [e]; simp))
/-- a new thing is laid that nothing knows -/
theorem Fr.new {p : Addr} {u : HO} (hp : H p = Option.none) (nl : ¬ badOf hid M ad p) : Fr hid M ad H M ad (upd H p u) := by
  refine ⟨⟨⟨[], by simp⟩, fun a o h n => ⟨?_, n⟩⟩, fun a h => ?_, fun a h => ?_⟩
  · show upd H p u a = some o
    rw [upd_ne (ne_of_none h hp)]
    exact h
  · have ne : a ≠ p := fun e => nl (.inl (e ▸ h))
    rw [upd_ne ne]
  · by_cases e : a = p
    · subst e
      rw [upd_same]
      simp
    · rw [upd_ne e]
      exact h
/-- live things are tracked -/
theorem Ok.some (k : Ok K hid M ad H) {i : Nat} {a : Addr} (h : lvI M i) (e : ad[i]? = some a) : ∃ o, H a = Option.some o := by
  obtain ⟨o, h1, h2⟩ := h
  have q := k.ob i o a h1 e
  cases o with
  | dead => exact absurd rfl h2
  | lst ds =>
    obtain ⟨vs, z, _⟩ := q
    exact ⟨_, z⟩
  | dct ks ds =>
    obtain ⟨es, z, _⟩ := q
    exact ⟨_, z⟩
  | ins c ns ds =>
    obtain ⟨dx, es, z, _⟩ := q
    exact ⟨_, z⟩
  | tbl P q' =>
    obtain ⟨_, ps, z, _⟩ := q
    exact ⟨_, z⟩
theorem Ok.fresh (k : Ok K hid M ad H) {p : Addr} (hp : H p = Option.none) : ¬ badOf hid M ad p := by
  rintro (h | ⟨i, h1, h2⟩)
  · exact k.hh p h hp
  · obtain ⟨o, z⟩ := k.some h1 h2
    rw [z] at hp
    cases hp
theorem MOk.le {W W' : Wd} (l : Le W W') {a : Addr} {o : MO} (e : W'.H a = W.H a) (h : MOk K W a o) : MOk K W' a o := by
  cases o with
  | dead => trivial
  | lst ds =>
    obtain ⟨vs, h1, h2⟩ := h
    exact ⟨vs, e.trans h1, RpL.le l ds h2⟩
  | dct ks ds =>
    obtain ⟨es, h1, h2, h3⟩ := h
    exact ⟨es, e.trans h1, h2, RpL.le l ds h3⟩
  | ins c ns ds =>
    obtain ⟨dx, es, h1, h2, h3⟩ := h
    exact ⟨dx, es, e.trans h1, h2, RpL.le l ds h3⟩
  | tbl P q =>
    obtain ⟨e0, ps, h1, h2, h3⟩ := h
    exact ⟨e0, ps, e.trans h1, h2, fun pos cv hc => let ⟨c, e1, e2, e3⟩ := h3 pos cv hc; ⟨c, e1, l.keep _ _ e2 e3⟩⟩
theorem Ok.new (k : Ok K hid M ad H) {p : Addr} {u : HO} (hp : H p = Option.none) : Ok K hid M ad (upd H p u) := by
  have f : Fr hid M ad H M ad (upd H p u) := Fr.new hp (k.fresh hp)
  refine ⟨k.len, k.inj, k.nh, fun i o a h1 h2 => ?_, fun a h => f.dom a (k.hh a h)⟩
  by_cases hd : o = .dead
  · subst hd
    trivial
  · obtain ⟨u', z⟩ := k.some ⟨o, h1, hd⟩ h2
    exact MOk.le f.le (upd_ne (ne_of_none z hp)) (k.ob i o a h1 h2)
/-- fewer places are hidden -/
theorem Le.unhid {hid' : Addr → Prop} (h : ∀ a, hid a → hid' a) : Le (wd hid' M ad H) (wd hid M ad H) :=
  ⟨⟨[], by simp⟩, fun a o e n => ⟨e, fun z => n (z.elim (fun q => .inl (h a q)) .inr)⟩⟩
theorem Ok.unhid {hid' : Addr → Prop} (k : Ok K hid' M ad H) (h : ∀ a, hid a → hid' a) : Ok K hid M ad H :=
  ⟨k.len, k.inj, fun i a h1 h2 z => k.nh i a h1 h2 (h a z), fun i o a h1 h2 => MOk.le (Le.unhid h) rfl (k.ob i o a h1 h2), fun a z => k.hh a (h a z)⟩
/-- a new place is hidden -/
def hidA (hid : Addr → Prop) (p : Addr) : Addr → Prop := fun a => hid a ∨ a = p
theorem Le.hide {p : Addr} {u : HO} (hp : H p = Option.none) : Le (wd hid M ad H) (wd (hidA hid p) M ad (upd H p u)) :=
  ⟨⟨[], by simp⟩, fun a o e n => ⟨by show upd H p u a = some o; rw [upd_ne (ne_of_none e hp)]; exact e, by
    rintro ((q | q) | q)
    · exact n (.inl q)
    · subst q
      have e' : H a = some o := e
      rw [hp] at e'
      cases e'
    · exact n (.inr q)⟩⟩
theorem Ok.hide (k : Ok K hid M ad H) {p : Addr} {u : HO} (hp : H p = Option.none) : Ok K (hidA hid p) M ad (upd H p u) := by
  refine ⟨k.len, k.inj, fun i a h1 h2 => ?_, fun i o a h1 h2 => ?_, fun a h => ?_⟩
  · rintro (q | q)
    · exact k.nh i a h1 h2 q
    · subst q
      obtain ⟨o, z⟩ := k.some h1 h2
      rw [hp] at z
      cases z
  · by_cases hd : o = .dead
    · subst hd
      trivial
    · obtain ⟨u', z⟩ := k.some ⟨o, h1, hd⟩ h2
      exact MOk.le (Le.hide hp) (upd_ne (ne_of_none z hp)) (k.ob i o a h1 h2)
  · rcases h with h | h
    · by_cases e : a = p
      · subst e
        rw [upd_same]
        simp
      · rw [upd_ne e]
        exact k.hh a h
    · subst h
      rw [upd_same]
      simp
/-- a hidden place is written -/
theorem Le.hidSet {p : Addr} {u : HO} (hp : hid p) : Le (wd hid M ad H) (wd hid M ad (upd H p u)) :=
  ⟨⟨[], by simp⟩, fun a o e n => ⟨by show upd H p u a = some o; rw [upd_ne (fun q : a = p => n (.inl (show hid a by rw [q]; exact hp)))]; exact e, n⟩⟩
theorem Ok.hidSet (k : Ok K hid M ad H) {p : Addr} {u : HO} (hp : hid p) : Ok K hid M ad (upd H p u) := by
  refine ⟨k.len, k.inj, k.nh, fun i o a h1 h2 => ?_, fun a h => ?_⟩
  · by_cases hd : o = .dead
    · subst hd
      trivial
    · have ne : a ≠ p := fun q => k.nh i a ⟨o, h1, hd⟩ h2 (q ▸ hp)
      exact MOk.le (Le.hidSet hp) (upd_ne ne) (k.ob i o a h1 h2)
  · by_cases e : a = p
    · subst e
      rw [upd_same]
      simp
    · rw [upd_ne e]
      exact k.hh a h
end
end DL

end
section
set_option maxHeartbeats 4000000
namespace DL
open PySem PySem.Spec PyProof.Rows L2

inductive Res (α : Type) where
  | ok (a : α) (M : Mem) | exc (c : Str) (ns : List Str) (ds : List D) (M : Mem) | bad
def Res.bind {α β : Type} (r : Res α) (f : α → Mem → Res β) : Res β := match r with
  | .ok a M => f a M
  | .exc c ns ds M => .exc c ns ds M
  | .bad => .bad
/-- the first that is no fault -/
def Res.els {α : Type} (r u : Res α) : Res α := match r with
  | .bad => u
  | .ok a M => .ok a M
  | .exc c ns ds M => .exc c ns ds M
inductive Sl where
  | no | val (d : D) | own (o : MO) | env (es : List (Addr × D)) | cau (c : Str) (ns : List Str) (ds : List D)
  deriving Inhabited
abbrev Rho := List Sl
abbrev SE := Rho → Mem → Res D
abbrev SA := Rho → Mem → Res (List D)
abbrev ST := Rho → Mem → Res Bool

/-- cells that hold these, frozen for the length of a call -/
def EnvD (K : PySem.W.Frag) (W : Wd) (es : List (Addr × D)) : Prop := ∀ p ∈ es, ∃ (oc : Obj) (u : Value) (v : V), W.H p.1 = some (CelO oc) ∧ ¬ W.bad p.1 ∧ oc.data = .cell (some u) ∧ RelV v u ∧ Rp K W p.2 v
/-- a caught exception, frozen for the length of a call -/
def CauD (K : PySem.W.Frag) (W : Wd) (a : Addr) (c : Str) (ns : List Str) (ds : List D) : Prop := ∃ (oe : Obj) (vs : Array Value) (d : Addr) (es : List (Str × V)), W.H a = some (CelO oe) ∧ ¬ W.bad a ∧ Zc (.ref (He.ga K c)) (some d) oe ∧ oe.data = .fields vs ∧ W.H d = some (.xd es) ∧ ¬ W.bad d ∧ es.map (·.1) = ns ∧ RpL K W ds (es.map (·.2))
theorem EnvD.le {K : PySem.W.Frag} {W W' : Wd} (l : Le W W') {es : List (Addr × D)} (h : EnvD K W es) : EnvD K W' es := fun p hp => by
  obtain ⟨oc, u, v, h1, h2, h3, h4, h5⟩ := h p hp
  obtain ⟨g1, g2⟩ := l.keep _ _ h1 h2
  exact ⟨oc, u, v, g1, g2, h3, h4, Rp.le l _ h5⟩
theorem CauD.le {K : PySem.W.Frag} {W W' : Wd} (l : Le W W') {a : Addr} {c : Str} {ns : List Str} {ds : List D} (h : CauD K W a c ns ds) : CauD K W' a c ns ds := by
  obtain ⟨oe, vs, d, es, h1, h2, h3, h4, h5, h6, h7, h8⟩ := h
  obtain ⟨g1, g2⟩ := l.keep _ _ h1 h2
  obtain ⟨g5, g6⟩ := l.keep _ _ h5 h6
  exact ⟨oe, vs, d, es, g1, g2, h3, h4, g5, g6, h7, RpL.le l _ h8⟩
structure RpS (K : PySem.W.Frag) (hid : Addr → Prop) (M : Mem) (ad : List Addr) (H : Hp) (ρ : Rho) (σ : L2.St) : Prop where
  len : σ.length = ρ.length
  val : ∀ (i : Nat) (d : D), ρ[i]? = some (.val d) → ∃ v, σ[i]? = some (some v) ∧ Rp K (wd hid M ad H) d v
  own : ∀ (i : Nat) (o : MO), ρ[i]? = some (.own o) → ∃ a, σ[i]? = some (some (.ref a)) ∧ hid a ∧ MOk K (wd hid M ad H) a o
  inj : ∀ (i j : Nat) (o u : MO) (a : Addr), ρ[i]? = some (.own o) → ρ[j]? = some (.own u) → σ[i]? = some (some (.ref a)) → σ[j]? = some (some (.ref a)) → i = j
  env : ∀ (i : Nat) (es : List (Addr × D)), ρ[i]? = some (.env es) → EnvD K (wd hid M ad H) es
  cau : ∀ (i : Nat) (c : Str) (ns : List Str) (ds : List D), ρ[i]? = some (.cau c ns ds) → ∃ a, σ[i]? = some (some (.ref a)) ∧ CauD K (wd hid M ad H) a c ns ds

/-- what is wanted of an error that leaves -/
def PostX (K : PySem.W.Frag) (hid : Addr → Prop) (M : Mem) (ad : List Addr) (H : Hp) (E : XK) (c : Str) (ns : List Str) (ds : List D) (M' : Mem) : Prop :=
  ∀ dx es ad' H', Fr hid M ad H M' ad' H' → Ok K hid M' ad' H' → es.map (·.1) = ns → (H' dx = some (.xd es) ∧ ¬ badOf hid M' ad' dx) → RpL K (wd hid M' ad' H') ds (es.map (·.2)) → E (.ref (He.ga K c)) (some dx) H'
/-- a wish about an outcome, that grows with what has been done -/
structure Pk (K : PySem.W.Frag) (hid : Addr → Prop) (E : XK) (β : Type) where
  P : Mem → List Addr → Hp → Res β → Prop
  fr : ∀ {M ad H M1 ad1 H1 r}, Fr hid M ad H M1 ad1 H1 → P M ad H r → P M1 ad1 H1 r
  ex : ∀ {M ad H c ns ds M'}, P M ad H (.exc c ns ds M') → PostX K hid M ad H E c ns ds M'
  no : ∀ {M ad H}, P M ad H .bad → False
section
variable {K : PySem.W.Frag} {hid : Addr → Prop} {M M1 : Mem} {ad ad1 : List Addr} {H H1 : Hp} {σ : L2.St} {ρ : Rho} {E : XK} {W : WX}
theorem RpS.fr (f : Fr hid M ad H M1 ad1 H1) (r : RpS K hid M ad H ρ σ) : RpS K hid M1 ad1 H1 ρ σ :=
  ⟨r.len, fun i d e => let ⟨v, h1, h2⟩ := r.val i d e; ⟨v, h1, Rp.le f.le d h2⟩, fun i o e => let ⟨a, h1, h2, h3⟩ := r.own i o e; ⟨a, h1, h2, MOk.le f.le (f.hidk a h2) h3⟩, r.inj, fun i es e => (r.env i es e).le f.le, fun i c ns ds e => let ⟨a, h1, h2⟩ := r.cau i c ns ds e; ⟨a, h1, h2.le f.le⟩⟩
theorem PostX.fr {c : Str} {ns : List Str} {ds : List D} {M' : Mem} (f : Fr hid M ad H M1 ad1 H1) (h : PostX K hid M ad H E c ns ds M') : PostX K hid M1 ad1 H1 E c ns ds M' :=
  fun dx es ad' H' g k e1 e2 e3 => h dx es ad' H' (f.trans g) k e1 e2 e3
end
/-- of a value; of a test; of several values; of a value that is new and known to nobody -/
def pV (K : PySem.W.Frag) (hid : Addr → Prop) (Q : VK) (E : XK) : Pk K hid E D where
  P M ad H r := match r with
    | .ok d M' => ∀ v ad' H', Fr hid M ad H M' ad' H' → Ok K hid M' ad' H' → Rp K (wd hid M' ad' H') d v → Q v H'
    | .exc c ns ds M' => PostX K hid M ad H E c ns ds M'
    | .bad => False
  fr {M ad H M1 ad1 H1 r} f h := match r, h with
    | .ok d M', h => fun v ad' H' g k rp => h v ad' H' (f.trans g) k rp
    | .exc _ _ _ _, h => PostX.fr f h
    | .bad, h => h
  ex h := h
  no h := h
def pB (K : PySem.W.Frag) (hid : Addr → Prop) (Q : Bool → Hp → Prop) (E : XK) : Pk K hid E Bool where
  P M ad H r := match r with
    | .ok b M' => ∀ ad' H', Fr hid M ad H M' ad' H' → Ok K hid M' ad' H' → Q b H'
    | .exc c ns ds M' => PostX K hid M ad H E c ns ds M'
    | .bad => False
  fr {M ad H M1 ad1 H1 r} f h := match r, h with
    | .ok d M', h => fun ad' H' g k => h ad' H' (f.trans g) k
    | .exc _ _ _ _, h => PostX.fr f h
    | .bad, h => h
  ex h := h
  no h := h
def pA (K : PySem.W.Frag) (hid : Addr → Prop) (Q : List V → Hp → Prop) (E : XK) : Pk K hid E (List D) where
  P M ad H r := match r with
    | .ok ds M' => ∀ vs ad' H', Fr hid M ad H M' ad' H' → Ok K hid M' ad' H' → RpL K (wd hid M' ad' H') ds vs → Q vs H'
    | .exc c ns ds M' => PostX K hid M ad H E c ns ds M'
    | .bad => False
  fr {M ad H M1 ad1 H1 r} f h := match r, h with
    | .ok d M', h => fun v ad' H' g k rp => h v ad' H' (f.trans g) k rp
    | .exc _ _ _ _, h => PostX.fr f h
    | .bad, h => h
  ex h := h
  no h := h
/-- the thing that a new value is -/
def moOf : D → Option MO
  | .lst ds => some (.lst ds)
  | .dct ks vs => some (.dct ks vs)
  | .ins c ns vs => some (.ins c ns vs)
  | _ => none
def pF (K : PySem.W.Frag) (hid : Addr → Prop) (Q : VK) (E : XK) : Pk K hid E D where
  P M ad H r := match r with
    | .ok d M' => ∀ a o ad' H', moOf d = some o → H a = none → Fr hid M ad H M' ad' H' → Ok K (hidA hid a) M' ad' H' → MOk K (wd (hidA hid a) M' ad' H') a o → Q (.ref a) H'
    | .exc c ns ds M' => PostX K hid M ad H E c ns ds M'
    | .bad => False
  fr {M ad H M1 ad1 H1 r} f h := match r, h with
    | .ok d M', h => fun a o ad' H' e0 e1 g k rp => h a o ad' H' e0 (f.none e1) (f.trans g) k rp
    | .exc _ _ _ _, h => PostX.fr f h
    | .bad, h => h
  ex h := h
  no h := h

abbrev wx (W : WX) (σ : L2.St) : XK := fun c d H' => W c d σ H'
def Snd (K : PySem.W.Frag) (W : WX) (te : TE) (m : SE) : Prop := ∀ (hid : Addr → Prop) (σ : L2.St) (ρ : Rho) (M : Mem) (ad : List Addr) (H : Hp) (Q : VK), Ok K hid M ad H → RpS K hid M ad H ρ σ →
  (pV K hid Q (wx W σ)).P M ad H (m ρ M) → te σ H Q
def SndF (K : PySem.W.Frag) (W : WX) (te : TE) (m : SE) : Prop := ∀ (hid : Addr → Prop) (σ : L2.St) (ρ : Rho) (M : Mem) (ad : List Addr) (H : Hp) (Q : VK), Ok K hid M ad H → RpS K hid M ad H ρ σ →
  (pF K hid Q (wx W σ)).P M ad H (m ρ M) → te σ H Q
def SndT (K : PySem.W.Frag) (W : WX) (tt : TT) (m : ST) : Prop := ∀ (hid : Addr → Prop) (σ : L2.St) (ρ : Rho) (M : Mem) (ad : List Addr) (H : Hp) (Q : Bool → Hp → Prop), Ok K hid M ad H → RpS K hid M ad H ρ σ →
  (pB K hid Q (wx W σ)).P M ad H (m ρ M) → tt σ H Q
def SndA (K : PySem.W.Frag) (W : WX) (ta : TA) (m : SA) : Prop := ∀ (hid : Addr → Prop) (σ : L2.St) (ρ : Rho) (M : Mem) (ad : List Addr) (H : Hp) (Q : List V → Hp → Prop), Ok K hid M ad H → RpS K hid M ad H ρ σ →
  (pA K hid Q (wx W σ)).P M ad H (m ρ M) → ta σ H Q

section
variable {K : PySem.W.Frag} {hid : Addr → Prop} {M M1 : Mem} {ad ad1 : List Addr} {H H1 : Hp} {σ : L2.St} {ρ : Rho} {Q : VK} {W : WX} {β : Type}
/-- one part is done, the rest follows -/
theorem Snd.step {te : TE} {m : SE} (s : Snd K W te m) (k : Ok K hid M ad H) (r : RpS K hid M ad H ρ σ) (p : Pk K hid (wx W σ) β) {f : D → Mem → Res β} (h : p.P M ad H ((m ρ M).bind f)) {R : VK}
    (nx : ∀ d M1 x ad1 H1, Fr hid M ad H M1 ad1 H1 → Ok K hid M1 ad1 H1 → Rp K (wd hid M1 ad1 H1) d x → RpS K hid M1 ad1 H1 ρ σ → p.P M1 ad1 H1 (f d M1) → R x H1) : te σ H R := by
  refine s hid σ ρ M ad H R k r ?_
  cases e : m ρ M with
  | ok d M1 =>
    rw [e] at h
    exact fun v ad1 H1 f1 k1 rp => nx d M1 v ad1 H1 f1 k1 rp (r.fr f1) (p.fr f1 h)
  | exc c ns ds M1 =>
    rw [e] at h
    exact p.ex h
  | bad =>
    rw [e] at h
    exact p.no h
theorem SndT.step {tt : TT} {m : ST} (s : SndT K W tt m) (k : Ok K hid M ad H) (r : RpS K hid M ad H ρ σ) (p : Pk K hid (wx W σ) β) {f : Bool → Mem → Res β} (h : p.P M ad H ((m ρ M).bind f)) {R : Bool → Hp → Prop}
    (nx : ∀ b M1 ad1 H1, Fr hid M ad H M1 ad1 H1 → Ok K hid M1 ad1 H1 → RpS K hid M1 ad1 H1 ρ σ → p.P M1 ad1 H1 (f b M1) → R b H1) : tt σ H R := by
  refine s hid σ ρ M ad H R k r ?_
  cases e : m ρ M with
  | ok d M1 =>
    rw [e] at h
    exact fun ad1 H1 f1 k1 => nx d M1 ad1 H1 f1 k1 (r.fr f1) (p.fr f1 h)
  | exc c ns ds M1 =>
    rw [e] at h
    exact p.ex h
  | bad =>
    rw [e] at h
    exact p.no h
theorem SndA.step {ta : TA} {m : SA} (s : SndA K W ta m) (k : Ok K hid M ad H) (r : RpS K hid M ad H ρ σ) (p : Pk K hid (wx W σ) β) {f : List D → Mem → Res β} (h : p.P M ad H ((m ρ M).bind f)) {R : List V → Hp → Prop}
    (nx : ∀ ds M1 xs ad1 H1, Fr hid M ad H M1 ad1 H1 → Ok K hid M1 ad1 H1 → RpL K (wd hid M1 ad1 H1) ds xs → RpS K hid M1 ad1 H1 ρ σ → p.P M1 ad1 H1 (f ds M1) → R xs H1) : ta σ H R := by
  refine s hid σ ρ M ad H R k r ?_
  cases e : m ρ M with
  | ok d M1 =>
    rw [e] at h
    exact fun v ad1 H1 f1 k1 rp => nx d M1 v ad1 H1 f1 k1 rp (r.fr f1) (p.fr f1 h)
  | exc c ns ds M1 =>
    rw [e] at h
    exact p.ex h
  | bad =>
    rw [e] at h
    exact p.no h
theorem moOf_rp {d : D} {o : MO} {a : Addr} (e : moOf d = some o) (nh : ¬ hid a) (k : Ok K (hidA hid a) M ad H) (mo : MOk K (wd (hidA hid a) M ad H) a o) : Rp K (wd hid M ad H) d (.ref a) := by
  have nb : ¬ badOf hid M ad a := by
    intro z
    rcases z with z | ⟨i, z1, z2⟩
    · exact nh z
    · exact k.nh i a z1 z2 (.inr rfl)
  have le : Le (wd (hidA hid a) M ad H) (wd hid M ad H) := Le.unhid fun _ z => .inl z
  have mo' := MOk.le le rfl mo
  cases d with
  | lst ds =>
    cases e
    obtain ⟨vs, h1, h2⟩ := mo'
    simp only [Rp]
    exact ⟨a, vs, rfl, ⟨h1, nb⟩, h2⟩
  | dct ks ds =>
    cases e
    obtain ⟨es, h1, h2, h3⟩ := mo'
    simp only [Rp]
    exact ⟨a, es, rfl, h1, nb, h2, h3⟩
  | ins c ns ds =>
    cases e
    obtain ⟨dx, es, h1, h2, h3⟩ := mo'
    simp only [Rp]
    exact ⟨a, dx, es, rfl, h1, nb, h2, h3⟩
  | _ => cases e
/-- a new value is a value -/
theorem SndF.weak {te : TE} {m : SE} (s : SndF K W te m) : Snd K W te m := fun hid σ ρ M ad H Q k r h => by
  refine s hid σ ρ M ad H Q k r ?_
  cases e : m ρ M with
  | ok d M1 =>
    rw [e] at h
    exact fun a o ad' H' e0 e1 f k' mo => h _ ad' H' f (k'.unhid fun _ z => .inl z) (moOf_rp e0 (fun z => k.hh a z e1) k' mo)
  | exc c ns ds M1 =>
    rw [e] at h
    exact h
  | bad =>
    rw [e] at h
    exact h

def mVar (i : Nat) : SE := fun ρ M => match ρ[i]? with
  | some (.val d) => .ok d M
  | _ => .bad
theorem snd_var (i : Nat) : Snd K W (tVar i) (mVar i) := fun hid σ ρ M ad H Q k r h => by
  unfold mVar at h
  cases e : ρ[i]? with
  | none =>
    rw [e] at h
    exact h.elim
  | some z =>
    rw [e] at h
    cases z with
    | val d =>
      obtain ⟨v, h1, h2⟩ := r.val i d e
      exact ⟨v, h1, h v ad H Fr.refl k h2⟩
    | _ => exact h.elim
def mC (d : D) : SE := fun _ M => .ok d M
theorem snd_c {d : D} {v : V} (h : ∀ W : Wd, Rp K W d v) : Snd K W (tC v) (mC d) := fun hid σ ρ M ad H Q k r q => q v ad H Fr.refl k (h _)
theorem snd_int (i : Int) : Snd K W (tC (.int i)) (mC (.int i)) := snd_c fun _ => by simp [Rp]
theorem snd_str (s : Str) : Snd K W (tC (.str s)) (mC (.str s)) := snd_c fun _ => by simp [Rp]
theorem snd_bl (b : Bool) : Snd K W (tC (.bl b)) (mC (.bl b)) := snd_c fun _ => by simp [Rp]
theorem snd_non : Snd K W (tC .non) (mC .non) := snd_c fun _ => by simp [Rp]
theorem snd_ty (n : String) : Snd K W (tC (.ty n)) (mC (.ty n)) := snd_c fun _ => by simp [Rp]

def OpS (K : PySem.W.Frag) (r : R2) (f : D → D → Mem → Res D) : Prop := ∀ (hid : Addr → Prop) (M : Mem) (ad : List Addr) (H : Hp) (dx dy : D) (x y : V) (Q : VK) (E : XK), Ok K hid M ad H → Rp K (wd hid M ad H) dx x → Rp K (wd hid M ad H) dy y →
  (pV K hid Q E).P M ad H (f dx dy M) → r x y H Q
def mOp (f : D → D → Mem → Res D) (ma mb : SE) : SE := fun ρ M => (ma ρ M).bind fun x M1 => (mb ρ M1).bind fun y M2 => f x y M2
theorem snd_op {r : R2} {f : D → D → Mem → Res D} {ta tb : TE} {ma mb : SE} (ho : OpS K r f) (ha : Snd K W ta ma) (hb : Snd K W tb mb) : Snd K W (tOp r ta tb) (mOp f ma mb) := fun hid σ ρ M ad H Q k rr h => by
  refine ha.step k rr (pV K hid Q (wx W σ)) h fun dx M1 x ad1 H1 f1 k1 rx r1 h1 => ?_
  refine hb.step k1 r1 (pV K hid Q (wx W σ)) h1 fun dy M2 y ad2 H2 f2 k2 ry r2 h2 => ?_
  exact ho hid M2 ad2 H2 dx dy x y Q _ k2 (Rp.le f2.le dx rx) ry h2
theorem OpS.or {r r' : R2} {f g : D → D → Mem → Res D} (h : OpS K r f) (h' : OpS K r' g) : OpS K (fun x y H Q => r x y H Q ∨ r' x y H Q) (fun x y M => (f x y M).els (g x y M)) := fun hid M ad H dx dy x y Q E k rx ry q0 => by
  have q : (pV K hid Q E).P M ad H ((f dx dy M).els (g dx dy M)) := q0
  cases e : f dx dy M with
  | ok d M1 =>
    rw [e] at q
    exact .inl (h hid M ad H dx dy x y Q E k rx ry (by rw [e]; exact q))
  | exc c ns ds M1 =>
    rw [e] at q
    exact .inl (h hid M ad H dx dy x y Q E k rx ry (by rw [e]; exact q))
  | bad =>
    rw [e] at q
    exact .inr (h' hid M ad H dx dy x y Q E k rx ry q)
/-- two ints -/
def fInt (C : Int → Int → Bool) (g : Int → Int → D) : D → D → Mem → Res D := fun x y M => match x, y with
  | .int i, .int j => if C i j = true then .ok (g i j) M else .bad
  | _, _ => .bad
theorem ops_int {C : Int → Int → Prop} {Cb : Int → Int → Bool} {gv : Int → Int → V} {g : Int → Int → D} (hC : ∀ i j, Cb i j = true → C i j) (hg : ∀ W i j, Rp K W (g i j) (gv i j)) : OpS K (rI C gv) (fInt Cb g) := fun hid M ad H dx dy x y Q E k rx ry q => by
  cases dx with
  | int i =>
    cases dy with
    | int j =>
      have ex : x = .int i := by simpa only [Rp] using rx
      have ey : y = .int j := by simpa only [Rp] using ry
      have q' : (pV K hid Q E).P M ad H (if Cb i j = true then .ok (g i j) M else .bad) := q
      by_cases c : Cb i j = true
      · rw [if_pos c] at q'
        exact ⟨i, j, ex, ey, hC i j c, q' _ ad H Fr.refl k (hg _ i j)⟩
      · rw [if_neg c] at q'
        exact q'.elim
    | _ => exact q.elim
  | _ => exact q.elim
theorem ops_int0 {gv : Int → Int → V} {g : Int → Int → D} (hg : ∀ W i j, Rp K W (g i j) (gv i j)) : OpS K (rI0 gv) (fInt (fun _ _ => true) g) := fun hid M ad H dx dy x y Q E k rx ry q => by
  obtain ⟨i, j, e1, e2, _, q⟩ := ops_int (C := fun _ _ => True) (fun _ _ _ => trivial) hg hid M ad H dx dy x y Q E k rx ry q
  exact ⟨i, j, e1, e2, q⟩
end
end DL

end
section
set_option maxHeartbeats 4000000
namespace DL
open PySem PySem.Spec PyProof.Rows L2
section
variable {K : PySem.W.Frag} {hid : Addr → Prop} {M M1 : Mem} {ad ad1 : List Addr} {H H1 : Hp} {σ : L2.St} {ρ : Rho} {Q : VK} {W : WX} {β : Type}

theorem new_lst {p : Addr} {ds : List D} {vs : List V} (k : Ok K hid M ad H) (hp : H p = none) (r : RpL K (wd hid M ad H) ds vs) :
    Fr hid M ad H M ad (upd H p (.lst vs)) ∧ Ok K hid M ad (upd H p (.lst vs)) ∧ Rp K (wd hid M ad (upd H p (.lst vs))) (.lst ds) (.ref p) := by
  have f : Fr hid M ad H M ad (upd H p (.lst vs)) := Fr.new hp (k.fresh hp)
  refine ⟨f, k.new hp, ?_⟩
  simp only [Rp]
  exact ⟨p, vs, rfl, ⟨upd_same, k.fresh hp⟩, RpL.le f.le ds r⟩
theorem new_tup {p : Addr} {ds : List D} {vs : List V} (k : Ok K hid M ad H) (hp : H p = none) (r : RpL K (wd hid M ad H) ds vs) :
    Fr hid M ad H M ad (upd H p (.tup vs)) ∧ Ok K hid M ad (upd H p (.tup vs)) ∧ Rp K (wd hid M ad (upd H p (.tup vs))) (.tup ds) (.ref p) := by
  have f : Fr hid M ad H M ad (upd H p (.tup vs)) := Fr.new hp (k.fresh hp)
  refine ⟨f, k.new hp, ?_⟩
  simp only [Rp]
  exact ⟨p, vs, rfl, .inl ⟨.inl upd_same, k.fresh hp⟩, RpL.le f.le ds r⟩
theorem new_lstF {p : Addr} {ds : List D} {vs : List V} (k : Ok K hid M ad H) (hp : H p = none) (r : RpL K (wd hid M ad H) ds vs) :
    Fr hid M ad H M ad (upd H p (.lst vs)) ∧ Ok K (hidA hid p) M ad (upd H p (.lst vs)) ∧ MOk K (wd (hidA hid p) M ad (upd H p (.lst vs))) p (.lst ds) := by
  have f : Fr hid M ad H M ad (upd H p (.lst vs)) := Fr.new hp (k.fresh hp)
  exact ⟨f, k.hide hp, vs, upd_same, RpL.le (Le.hide hp) ds r⟩

def mNil : SA := fun _ M => .ok [] M
def mCons (m : SE) (r : SA) : SA := fun ρ M => (m ρ M).bind fun d M1 => (r ρ M1).bind fun ds M2 => .ok (d :: ds) M2
theorem snd_nil : SndA K W tNil mNil := fun hid σ ρ M ad H Q k r h => h [] ad H Fr.refl k RpL.nil
theorem snd_cons {te : TE} {ta : TA} {m : SE} {r : SA} (h1 : Snd K W te m) (h2 : SndA K W ta r) : SndA K W (tCons te ta) (mCons m r) := fun hid σ ρ M ad H Q k rr h => by
  refine h1.step k rr (pA K hid Q (wx W σ)) h fun d M1 x ad1 H1 f1 k1 rx r1 h1 => ?_
  refine h2.step k1 r1 (pA K hid Q (wx W σ)) h1 fun ds M2 xs ad2 H2 f2 k2 rxs r2 h2 => ?_
  exact h2 (x :: xs) ad2 H2 Fr.refl k2 (RpL.cons (Rp.le f2.le d rx) rxs)
def mTup (m : SA) : SE := fun ρ M => (m ρ M).bind fun ds M1 => if ds.length ≤ sizeLine then .ok (.tup ds) M1 else .bad
def mLst (m : SA) : SE := fun ρ M => (m ρ M).bind fun ds M1 => if ds.length ≤ sizeLine then .ok (.lst ds) M1 else .bad
theorem snd_tup {ta : TA} {m : SA} (h : SndA K W ta m) : Snd K W (tTup ta) (mTup m) := fun hid σ ρ M ad H Q k rr q => by
  refine h.step k rr (pV K hid Q (wx W σ)) q fun ds M1 xs ad1 H1 f1 k1 rx r1 h1 => ?_
  by_cases c : ds.length ≤ sizeLine
  · rw [if_pos c] at h1
    refine ⟨by rw [rx.len]; exact c, fun p hp => ?_⟩
    obtain ⟨f2, k2, r2⟩ := new_tup k1 hp rx
    exact h1 _ _ _ f2 k2 r2
  · rw [if_neg c] at h1
    exact h1.elim
theorem snd_lstF {ta : TA} {m : SA} (h : SndA K W ta m) : SndF K W (tLst ta) (mLst m) := fun hid σ ρ M ad H Q k rr q => by
  refine h.step k rr (pF K hid Q (wx W σ)) q fun ds M1 xs ad1 H1 f1 k1 rx r1 h1 => ?_
  by_cases c : ds.length ≤ sizeLine
  · rw [if_pos c] at h1
    refine ⟨by rw [rx.len]; exact c, fun p hp => ?_⟩
    obtain ⟨f2, k2, r2⟩ := new_lstF k1 hp rx
    exact h1 p _ _ _ rfl hp f2 k2 r2
  · rw [if_neg c] at h1
    exact h1.elim
theorem snd_lst {ta : TA} {m : SA} (h : SndA K W ta m) : Snd K W (tLst ta) (mLst m) := (snd_lstF h).weak

def mOwn (m : SE) : SE := fun ρ M => (m ρ M).bind fun d M1 => match moOf d with
  | some o => .ok (.obj M1.length) (M1 ++ [o])
  | none => .bad
theorem moOf_live {d : D} {o : MO} (e : moOf d = some o) : o ≠ .dead := by
  intro z
  subst z
  cases d <;> cases e
/-- a hidden thing joins the memory -/
theorem join_mem {a : Addr} {o : MO} (ho : o ≠ .dead) (nh : ¬ hid a) (k : Ok K (hidA hid a) M ad H) (mo : MOk K (wd (hidA hid a) M ad H) a o) :
    Ok K hid (M ++ [o]) (ad ++ [a]) H ∧ Le (wd (hidA hid a) M ad H) (wd hid (M ++ [o]) (ad ++ [a]) H) := by
  have bd : ∀ b, badOf hid (M ++ [o]) (ad ++ [a]) b → badOf (hidA hid a) M ad b := by
    intro b z
    rcases z with z | ⟨i, ⟨u, z1, z3⟩, z2⟩
    · exact .inl (.inl z)
    · by_cases c : i < M.length
      · rw [List.getElem?_append_left c] at z1
        rw [List.getElem?_append_left (by rw [k.len]; exact c)] at z2
        exact .inr ⟨i, ⟨u, z1, z3⟩, z2⟩
      · have hi : i < (ad ++ [a]).length := (List.getElem?_eq_some_iff.mp z2).1
        rw [List.length_append, k.len, List.length_singleton] at hi
        have e : i = ad.length := by rw [k.len]; omega
        subst e
        rw [List.getElem?_concat_length] at z2
        exact .inl (.inr (Option.some.inj z2).symm)
  have le : Le (wd (hidA hid a) M ad H) (wd hid (M ++ [o]) (ad ++ [a]) H) := ⟨⟨[a], rfl⟩, fun b u e n => ⟨e, fun z => n (bd b z)⟩⟩
  have at_ : ∀ (i : Nat) (u : MO) (b : Addr), (M ++ [o])[i]? = some u → (ad ++ [a])[i]? = some b → (M[i]? = some u ∧ ad[i]? = some b) ∨ (i = M.length ∧ u = o ∧ b = a) := by
    intro i u b z1 z2
    by_cases c : i < M.length
    · rw [List.getElem?_append_left c] at z1
      rw [List.getElem?_append_left (by rw [k.len]; exact c)] at z2
      exact .inl ⟨z1, z2⟩
    · have hi : i < (M ++ [o]).length := (List.getElem?_eq_some_iff.mp z1).1
      rw [List.length_append, List.length_singleton] at hi
      have e : i = M.length := by omega
      subst e
      rw [List.getElem?_concat_length] at z1
      rw [← k.len, List.getElem?_concat_length] at z2
      exact .inr ⟨rfl, (Option.some.inj z1).symm, (Option.some.inj z2).symm⟩
  refine ⟨⟨by rw [List.length_append, List.length_append, k.len] <;> rfl, ?_, ?_, ?_, fun b z => k.hh b (.inl z)⟩, le⟩
  · intro i j b ⟨u, z1, z3⟩ ⟨w, y1, y3⟩ z2 y2
    rcases at_ i u b z1 z2 with ⟨p1, p2⟩ | ⟨p1, p2, p3⟩
    · rcases at_ j w b y1 y2 with ⟨q1, q2⟩ | ⟨q1, q2, q3⟩
      · exact k.inj i j b ⟨u, p1, z3⟩ ⟨w, q1, y3⟩ p2 q2
      · exact absurd (Or.inr q3) (k.nh i b ⟨u, p1, z3⟩ p2)
    · rcases at_ j w b y1 y2 with ⟨q1, q2⟩ | ⟨q1, q2, q3⟩
      · exact absurd (Or.inr p3) (k.nh j b ⟨w, q1, y3⟩ q2)
      · rw [p1, q1]
  · intro i b ⟨u, z1, z3⟩ z2 z
    rcases at_ i u b z1 z2 with ⟨p1, p2⟩ | ⟨p1, p2, p3⟩
    · exact k.nh i b ⟨u, p1, z3⟩ p2 (.inl z)
    · rw [p3] at z
      exact nh z
  · intro i u b z1 z2
    rcases at_ i u b z1 z2 with ⟨p1, p2⟩ | ⟨p1, p2, p3⟩
    · exact MOk.le le rfl (k.ob i u b p1 p2)
    · rw [p2, p3]
      exact MOk.le le rfl mo
theorem snd_own {te : TE} {m : SE} (s : SndF K W te m) : Snd K W te (mOwn m) := fun hid σ ρ M ad H Q k r h => by
  refine s hid σ ρ M ad H Q k r ?_
  have h' : (pV K hid Q (wx W σ)).P M ad H ((m ρ M).bind fun d M1 => match moOf d with
    | some o => .ok (.obj M1.length) (M1 ++ [o])
    | none => .bad) := h
  cases e : m ρ M with
  | ok d M1 =>
    rw [e] at h'
    intro a o ad' H' e0 e1 f k' mo
    have h2 : (pV K hid Q (wx W σ)).P M ad H (match moOf d with
      | some o => .ok (.obj M1.length) (M1 ++ [o])
      | none => .bad) := h'
    rw [e0] at h2
    have nh : ¬ hid a := fun z => k.hh a z e1
    obtain ⟨k2, le⟩ := join_mem (moOf_live e0) nh k' mo
    refine h2 (.ref a) (ad' ++ [a]) H' ⟨?_, f.hidk, f.dom⟩ k2 ?_
    · obtain ⟨e2, h3⟩ := f.le.pre
      refine ⟨⟨e2 ++ [a], by rw [← List.append_assoc, ← h3]⟩, fun b u hb n => ?_⟩
      obtain ⟨g1, g2⟩ := f.le.keep b u hb n
      have ne : b ≠ a := fun q => by
        subst q
        have hb' : H b = some u := hb
        rw [e1] at hb'
        cases hb'
      exact le.keep b u g1 fun z => by
        rcases z with (z | z) | z
        · exact g2 (.inl z)
        · exact ne z
        · exact g2 (.inr z)
    · simp only [Rp]
      refine ⟨a, rfl, ?_⟩
      show (ad' ++ [a])[M1.length]? = some a
      rw [← k'.len, List.getElem?_concat_length]
  | exc c ns ds M1 =>
    rw [e] at h'
    exact h'
  | bad =>
    rw [e] at h'
    exact h'

def mTest (m : SE) : ST := fun ρ M => (m ρ M).bind fun d M1 => match d with
  | .bl b => .ok b M1
  | _ => .bad
theorem snd_test {te : TE} {m : SE} (s : Snd K W te m) : SndT K W (tB te) (mTest m) := fun hid σ ρ M ad H Q k r h => by
  refine s.step k r (pB K hid Q (wx W σ)) h fun d M1 x ad1 H1 f1 k1 rx r1 h1 => ?_
  cases d with
  | bl b =>
    have e : x = .bl b := by simpa only [Rp] using rx
    exact ⟨b, e, h1 ad1 H1 Fr.refl k1⟩
  | _ => exact h1.elim
def mAnd (m n : ST) : ST := fun ρ M => (m ρ M).bind fun b M1 => if b = true then n ρ M1 else .ok false M1
def mOr (m n : ST) : ST := fun ρ M => (m ρ M).bind fun b M1 => if b = true then .ok true M1 else n ρ M1
def mNot (m : ST) : ST := fun ρ M => (m ρ M).bind fun b M1 => .ok (!b) M1
theorem snd_and {t u : TT} {m n : ST} (h1 : SndT K W t m) (h2 : SndT K W u n) : SndT K W (tAnd t u) (mAnd m n) := fun hid σ ρ M ad H Q k r h => by
  refine h1.step k r (pB K hid Q (wx W σ)) h fun b M1 ad1 H1 f1 k1 r1 q => ?_
  cases b with
  | true =>
    rw [if_pos rfl] at q
    exact iteT (h2 hid σ ρ M1 ad1 H1 Q k1 r1 q)
  | false =>
    rw [if_neg (by decide)] at q
    exact iteF (q ad1 H1 Fr.refl k1)
theorem snd_or {t u : TT} {m n : ST} (h1 : SndT K W t m) (h2 : SndT K W u n) : SndT K W (tOr t u) (mOr m n) := fun hid σ ρ M ad H Q k r h => by
  refine h1.step k r (pB K hid Q (wx W σ)) h fun b M1 ad1 H1 f1 k1 r1 q => ?_
  cases b with
  | true =>
    rw [if_pos rfl] at q
    exact iteT (q ad1 H1 Fr.refl k1)
  | false =>
    rw [if_neg (by decide)] at q
    exact iteF (h2 hid σ ρ M1 ad1 H1 Q k1 r1 q)
theorem snd_not {t : TT} {m : ST} (h1 : SndT K W t m) : SndT K W (tNot t) (mNot m) := fun hid σ ρ M ad H Q k r h => by
  refine h1.step k r (pB K hid Q (wx W σ)) h fun b M1 ad1 H1 f1 k1 r1 q => ?_
  exact q ad1 H1 Fr.refl k1
/-- and, or, not as values of truth -/
def mB (m : ST) : SE := fun ρ M => (m ρ M).bind fun b M1 => .ok (.bl b) M1
theorem rp_bl {W : Wd} (b : Bool) : Rp K W (.bl b) (.bl b) := by simp [Rp]
theorem rp_int {W : Wd} (b : Int) : Rp K W (.int b) (.int b) := by simp [Rp]
theorem rp_str {W : Wd} (b : Str) : Rp K W (.str b) (.str b) := by simp [Rp]
theorem snd_andV {ta tb : TE} {ma mb : SE} (h1 : Snd K W ta ma) (h2 : Snd K W tb mb) : Snd K W (tAndV ta tb) (mB (mAnd (mTest ma) (mTest mb))) := fun hid σ ρ M ad H Q k r h => by
  refine h1 hid σ ρ M ad H _ k r ?_
  have h' : (pV K hid Q (wx W σ)).P M ad H ((((ma ρ M).bind fun d M1 => match d with
    | .bl b => Res.ok b M1
    | _ => .bad).bind fun b M1 => if b = true then mTest mb ρ M1 else .ok false M1).bind fun b M1 => .ok (.bl b) M1) := h
  cases e : ma ρ M with
  | ok d M1 =>
    rw [e] at h'
    intro v ad1 H1 f1 k1 rv
    cases d with
    | bl b =>
      have ev : v = .bl b := by simpa only [Rp] using rv
      refine ⟨b, ev, ?_⟩
      cases b with
      | false => exact iteF (h' _ ad1 H1 f1 k1 (rp_bl _))
      | true =>
        refine iteT ?_
        have h2' : (pV K hid Q (wx W σ)).P M ad H (((mb ρ M1).bind fun d M1 => match d with
          | .bl b => Res.ok b M1
          | _ => .bad).bind fun b M1 => .ok (.bl b) M1) := h'
        refine h2 hid σ ρ M1 ad1 H1 Q k1 (r.fr f1) ?_
        cases e2 : mb ρ M1 with
        | ok d2 M2 =>
          rw [e2] at h2'
          intro v2 ad2 H2 f2 k2 rv2
          cases d2 with
          | bl b2 =>
            have ev2 : v2 = .bl b2 := by simpa only [Rp] using rv2
            exact h2' v2 ad2 H2 (f1.trans f2) k2 rv2
          | _ => exact h2'.elim
        | exc c ns ds M2 =>
          rw [e2] at h2'
          exact PostX.fr f1 h2'
        | bad =>
          rw [e2] at h2'
          exact h2'.elim
    | _ => exact h'.elim
  | exc c ns ds M1 =>
    rw [e] at h'
    exact h'
  | bad =>
    rw [e] at h'
    exact h'
theorem snd_orV {ta tb : TE} {ma mb : SE} (h1 : Snd K W ta ma) (h2 : Snd K W tb mb) : Snd K W (tOrV ta tb) (mB (mOr (mTest ma) (mTest mb))) := fun hid σ ρ M ad H Q k r h => by
  refine h1 hid σ ρ M ad H _ k r ?_
  have h' : (pV K hid Q (wx W σ)).P M ad H ((((ma ρ M).bind fun d M1 => match d with
    | .bl b => Res.ok b M1
    | _ => .bad).bind fun b M1 => if b = true then .ok true M1 else mTest mb ρ M1).bind fun b M1 => .ok (.bl b) M1) := h
  cases e : ma ρ M with
  | ok d M1 =>
    rw [e] at h'
    intro v ad1 H1 f1 k1 rv
    cases d with
    | bl b =>
      have ev : v = .bl b := by simpa only [Rp] using rv
      refine ⟨b, ev, ?_⟩
      cases b with
      | true => exact iteT (h' _ ad1 H1 f1 k1 (rp_bl _))
      | false =>
        refine iteF ?_
        have h2' : (pV K hid Q (wx W σ)).P M ad H (((mb ρ M1).bind fun d M1 => match d with
          | .bl b => Res.ok b M1
          | _ => .bad).bind fun b M1 => .ok (.bl b) M1) := h'
        refine h2 hid σ ρ M1 ad1 H1 Q k1 (r.fr f1) ?_
        cases e2 : mb ρ M1 with
        | ok d2 M2 =>
          rw [e2] at h2'
          intro v2 ad2 H2 f2 k2 rv2
          cases d2 with
          | bl b2 =>
            have ev2 : v2 = .bl b2 := by simpa only [Rp] using rv2
            exact h2' v2 ad2 H2 (f1.trans f2) k2 rv2
          | _ => exact h2'.elim
        | exc c ns ds M2 =>
          rw [e2] at h2'
          exact PostX.fr f1 h2'
        | bad =>
          rw [e2] at h2'
          exact h2'.elim
    | _ => exact h'.elim
  | exc c ns ds M1 =>
    rw [e] at h'
    exact h'
  | bad =>
    rw [e] at h'
    exact h'
theorem snd_notV {ta : TE} {ma : SE} (h1 : Snd K W ta ma) : Snd K W (tNotV ta) (mB (mNot (mTest ma))) := fun hid σ ρ M ad H Q k r h => by
  refine h1 hid σ ρ M ad H _ k r ?_
  have h' : (pV K hid Q (wx W σ)).P M ad H ((((ma ρ M).bind fun d M1 => match d with
    | .bl b => Res.ok b M1
    | _ => .bad).bind fun b M1 => .ok (!b) M1).bind fun b M1 => .ok (.bl b) M1) := h
  cases e : ma ρ M with
  | ok d M1 =>
    rw [e] at h'
    intro v ad1 H1 f1 k1 rv
    cases d with
    | bl b =>
      have ev : v = .bl b := by simpa only [Rp] using rv
      exact ⟨b, ev, h' _ ad1 H1 f1 k1 (rp_bl _)⟩
    | _ => exact h'.elim
  | exc c ns ds M1 =>
    rw [e] at h'
    exact h'
  | bad =>
    rw [e] at h'
    exact h'
def mIfE (t : ST) (a b : SE) : SE := fun ρ M => (t ρ M).bind fun c M1 => if c = true then a ρ M1 else b ρ M1
theorem snd_ifE {t : TT} {ta tb : TE} {m : ST} {ma mb : SE} (h : SndT K W t m) (h1 : Snd K W ta ma) (h2 : Snd K W tb mb) : Snd K W (tIf t ta tb) (mIfE m ma mb) := fun hid σ ρ M ad H Q k r q => by
  refine h.step k r (pV K hid Q (wx W σ)) q fun b M1 ad1 H1 f1 k1 r1 q => ?_
  cases b with
  | true =>
    rw [if_pos rfl] at q
    exact iteT (h1 hid σ ρ M1 ad1 H1 Q k1 r1 q)
  | false =>
    rw [if_neg (by decide)] at q
    exact iteF (h2 hid σ ρ M1 ad1 H1 Q k1 r1 q)
end
end DL

end
section
set_option maxHeartbeats 4000000
namespace DL
open PySem PySem.Spec PyProof.Rows L2
theorem OpR.or {X : Cx} {f : Value → Value → Sem Value} {r r' : R2} (h : OpR X f r) (h' : OpR X f r') : OpR X f (fun x y H Q => r x y H Q ∨ r' x y H Q) :=
  fun pins s σ H x y v u Q I rx ry q => q.elim (h pins s σ H x y v u Q I rx ry) (h' pins s σ H x y v u Q I rx ry)
theorem OpR.mono {X : Cx} {f : Value → Value → Sem Value} {r r' : R2} (h : OpR X f r) (hi : ∀ x y H Q, r' x y H Q → r x y H Q) : OpR X f r' :=
  fun pins s σ H x y v u Q I rx ry q => h pins s σ H x y v u Q I rx ry (hi _ _ _ _ q)
section
variable {K : PySem.W.Frag}

def scV : D → Option V
  | .non => some .non
  | .bl b => some (.bl b)
  | .int i => some (.int i)
  | .str s => some (.str s)
  | _ => none
theorem scV_rp {W : Wd} {d : D} {v u : V} (h : scV d = some u) (r : Rp K W d v) : v = u := by
  cases d <;> first
    | cases h <;> simpa only [Rp] using r
    | (cases h)
def scL : List D → Option (List V)
  | [] => some []
  | d :: ds => (scV d).bind fun v => (scL ds).map fun vs => v :: vs
theorem scL_rp {W : Wd} : ∀ {ds : List D} {vs us : List V}, scL ds = some us → RpL K W ds vs → vs = us
  | [], vs, us, h, r => by
    have e := r.nilI
    subst e
    exact Option.some.inj h
  | d :: ds, vs, us, h, r => by
    obtain ⟨v, r', e, h1, h2⟩ := r.consI
    unfold scL at h
    cases e1 : scV d with
    | none =>
      rw [e1] at h
      cases h
    | some w =>
      rw [e1] at h
      have h' : (scL ds).map (fun vs => w :: vs) = some us := h
      cases e2 : scL ds with
      | none =>
        rw [e2] at h'
        cases h'
      | some ws =>
        rw [e2] at h'
        have e3 := scV_rp e1 h1
        have e4 := scL_rp e2 h2
        rw [e, e3, e4]
        exact Option.some.inj h'
theorem scV_flat {d : D} {u : V} (h : scV d = some u) : flatV u = true := by
  cases d <;> first
    | (cases h; rfl)
    | cases h
theorem scL_flat : ∀ {ds : List D} {us : List V}, scL ds = some us → us.all flatV = true
  | [], us, h => by
    have e := Option.some.inj h
    subst e
    rfl
  | d :: ds, us, h => by
    unfold scL at h
    cases e1 : scV d with
    | none =>
      rw [e1] at h
      cases h
    | some w =>
      rw [e1] at h
      have h' : (scL ds).map (fun vs => w :: vs) = some us := h
      cases e2 : scL ds with
      | none =>
        rw [e2] at h'
        cases h'
      | some ws =>
        rw [e2] at h'
        have e3 : w :: ws = us := Option.some.inj h'
        subst e3
        rw [List.all_cons, scV_flat e1, scL_flat e2]
        rfl

mutual
def py : D → Option PyData
  | .non => some .none
  | .bl b => some (.bool b)
  | .int i => some (.int i)
  | .str s => some (.str s)
  | .lst ds => (pyL ds).map .list
  | .tup ds => (pyL ds).map .tuple
  | .ty _ => none
  | .cls _ => none
  | .dct _ _ => none
  | .ins _ _ _ => none
  | .obj _ => none
  | .scr _ => none
  | .lam _ _ => none
  | .exn _ _ _ => none
def pyL : List D → Option (List PyData)
  | [] => some []
  | d :: ds => match py d, pyL ds with
    | some p, some ps => some (p :: ps)
    | _, _ => none
end
mutual
theorem py_dp {W : Wd} : ∀ (d : D) {p : PyData} {v : V}, py d = some p → Rp K W d v → Dp K W.H v p
  | .non, p, v, h, r => by
    simp only [py, Option.some.injEq, Rp] at h r
    subst h r
    exact .non
  | .bl b, p, v, h, r => by
    simp only [py, Option.some.injEq, Rp] at h r
    subst h r
    exact .bl b
  | .int i, p, v, h, r => by
    simp only [py, Option.some.injEq, Rp] at h r
    subst h r
    exact .int i
  | .str s, p, v, h, r => by
    simp only [py, Option.some.injEq, Rp] at h r
    subst h r
    exact .str s
  | .lst ds, p, v, h, r => by
    simp only [py, Rp] at h r
    obtain ⟨a, vs, e, h1, h2⟩ := r
    cases q : pyL ds with
    | none =>
      rw [q] at h
      cases h
    | some ps =>
      rw [q] at h
      have e2 : PyData.list ps = p := Option.some.inj h
      subst e e2
      exact .lst (SqL.of h1.1) (pyL_dp ds q h2)
  | .tup ds, p, v, h, r => by
    simp only [py, Rp] at h r
    obtain ⟨a, vs, e, h1, h2⟩ := r
    cases q : pyL ds with
    | none =>
      rw [q] at h
      cases h
    | some ps =>
      rw [q] at h
      have e2 : PyData.tuple ps = p := Option.some.inj h
      subst e e2
      exact .tup h1.sq (pyL_dp ds q h2)
  | .ty _, _, _, h, _ => by simp [py] at h
  | .cls _, _, _, h, _ => by simp [py] at h
  | .dct _ _, _, _, h, _ => by simp [py] at h
  | .ins _ _ _, _, _, h, _ => by simp [py] at h
  | .obj _, _, _, h, _ => by simp [py] at h
  | .scr _, _, _, h, _ => by simp [py] at h
  | .lam _ _, _, _, h, _ => by simp [py] at h
  | .exn _ _ _, _, _, h, _ => by simp [py] at h
theorem pyL_dp {W : Wd} : ∀ (ds : List D) {ps : List PyData} {vs : List V}, pyL ds = some ps → RpL K W ds vs → DpAll K W.H vs ps
  | [], ps, vs, h, r => by
    simp only [pyL, Option.some.injEq] at h
    have e := r.nilI
    subst h e
    exact .nil
  | d :: ds, ps, vs, h, r => by
    obtain ⟨v, r', e, h1, h2⟩ := r.consI
    simp only [pyL] at h
    cases q : py d with
    | none =>
      rw [q] at h
      cases h
    | some p =>
      cases q2 : pyL ds with
      | none =>
        rw [q, q2] at h
        cases h
      | some ps' =>
        rw [q, q2] at h
        have e2 : p :: ps' = ps := Option.some.inj h
        subst e e2
        exact .cons (py_dp d q h1) (pyL_dp ds q2 h2)
end

def fEqS (neg : Bool) : D → D → Mem → Res D := fun x y M => match scV x, scV y with
  | some u, some w => if scal u w = true then .ok (.bl (if neg then !decide (u = w) else decide (u = w))) M else .bad
  | _, _ => .bad
def fEqD (neg : Bool) : D → D → Mem → Res D := fun x y M => match py x, py y with
  | some p, some q => if (SeqAt.shaped p && SeqAt.shaped q) = true then .ok (.bl (if neg then !PyData.eqv p q else PyData.eqv p q)) M else .bad
  | _, _ => .bad
theorem ops_eqS : OpS K rEq (fEqS false) := fun hid M ad H dx dy x y Q E k rx ry q => by
  unfold fEqS at q
  cases e1 : scV dx with
  | none =>
    rw [e1] at q
    exact q.elim
  | some u =>
    cases e2 : scV dy with
    | none =>
      rw [e1, e2] at q
      exact q.elim
    | some w =>
      rw [e1, e2] at q
      have q' : (pV K hid Q E).P M ad H (if scal u w = true then .ok (.bl (decide (u = w))) M else .bad) := q
      by_cases c : scal u w = true
      · rw [if_pos c] at q'
        rw [scV_rp e1 rx, scV_rp e2 ry]
        exact ⟨c, q' _ ad H Fr.refl k (rp_bl _)⟩
      · rw [if_neg c] at q'
        exact q'.elim
theorem ops_neS : OpS K rNe (fEqS true) := fun hid M ad H dx dy x y Q E k rx ry q => by
  unfold fEqS at q
  cases e1 : scV dx with
  | none =>
    rw [e1] at q
    exact q.elim
  | some u =>
    cases e2 : scV dy with
    | none =>
      rw [e1, e2] at q
      exact q.elim
    | some w =>
      rw [e1, e2] at q
      have q' : (pV K hid Q E).P M ad H (if scal u w = true then .ok (.bl (!decide (u = w))) M else .bad) := q
      by_cases c : scal u w = true
      · rw [if_pos c] at q'
        rw [scV_rp e1 rx, scV_rp e2 ry]
        exact ⟨c, q' _ ad H Fr.refl k (rp_bl _)⟩
      · rw [if_neg c] at q'
        exact q'.elim
theorem ops_eqD : OpS K (rEqD K) (fEqD false) := fun hid M ad H dx dy x y Q E k rx ry q => by
  unfold fEqD at q
  cases e1 : py dx with
  | none =>
    rw [e1] at q
    exact q.elim
  | some u =>
    cases e2 : py dy with
    | none =>
      rw [e1, e2] at q
      exact q.elim
    | some w =>
      rw [e1, e2] at q
      have q' : (pV K hid Q E).P M ad H (if (SeqAt.shaped u && SeqAt.shaped w) = true then .ok (.bl (PyData.eqv u w)) M else .bad) := q
      by_cases c : (SeqAt.shaped u && SeqAt.shaped w) = true
      · rw [if_pos c] at q'
        obtain ⟨c1, c2⟩ := Bool.and_eq_true_iff.mp c
        exact ⟨u, w, py_dp dx e1 rx, py_dp dy e2 ry, c1, c2, q' _ ad H Fr.refl k (rp_bl _)⟩
      · rw [if_neg c] at q'
        exact q'.elim
theorem ops_neD : OpS K (rNeD K) (fEqD true) := fun hid M ad H dx dy x y Q E k rx ry q => by
  unfold fEqD at q
  cases e1 : py dx with
  | none =>
    rw [e1] at q
    exact q.elim
  | some u =>
    cases e2 : py dy with
    | none =>
      rw [e1, e2] at q
      exact q.elim
    | some w =>
      rw [e1, e2] at q
      have q' : (pV K hid Q E).P M ad H (if (SeqAt.shaped u && SeqAt.shaped w) = true then .ok (.bl (!PyData.eqv u w)) M else .bad) := q
      by_cases c : (SeqAt.shaped u && SeqAt.shaped w) = true
      · rw [if_pos c] at q'
        obtain ⟨c1, c2⟩ := Bool.and_eq_true_iff.mp c
        exact ⟨u, w, py_dp dx e1 rx, py_dp dy e2 ry, c1, c2, q' _ ad H Fr.refl k (rp_bl _)⟩
      · rw [if_neg c] at q'
        exact q'.elim
def fEq : D → D → Mem → Res D := fun x y M => (fEqS false x y M).els (fEqD false x y M)
def fNe : D → D → Mem → Res D := fun x y M => (fEqS true x y M).els (fEqD true x y M)
def rEqA (K : PySem.W.Frag) : R2 := fun x y H Q => rEq x y H Q ∨ rEqD K x y H Q
def rNeA (K : PySem.W.Frag) : R2 := fun x y H Q => rNe x y H Q ∨ rNeD K x y H Q
theorem ops_eq : OpS K (rEqA K) fEq := ops_eqS.or ops_eqD
theorem ops_ne : OpS K (rNeA K) fNe := ops_neS.or ops_neD
theorem opr_eq {X : Cx} (hu : X.A.units + 64 < cLine) : OpR X (compareOp .Eq) (rEqA X.K) := op_eq.or (op_eqD hu)
theorem opr_ne {X : Cx} (hu : X.A.units + 64 < cLine) : OpR X (compareOp .NotEq) (rNeA X.K) := op_ne.or (op_neD hu)

def fIsN (neg : Bool) : D → D → Mem → Res D := fun x y M => match y with
  | .non => .ok (.bl (match x with
    | .non => !neg
    | _ => neg)) M
  | _ => .bad
theorem rp_non {W : Wd} {d : D} {v : V} (r : Rp K W d v) : decide (v = .non) = (match d with
    | .non => true
    | _ => false) := by
  cases d with
  | non =>
    have e : v = .non := by simpa only [Rp] using r
    subst e
    rfl
  | bl b => have e : v = .bl b := by simpa only [Rp] using r
            subst e; rfl
  | int b => have e : v = .int b := by simpa only [Rp] using r
             subst e; rfl
  | str b => have e : v = .str b := by simpa only [Rp] using r
             subst e; rfl
  | ty b => have e : v = .ty b := by simpa only [Rp] using r
            subst e; rfl
  | cls b => have e : v = .ref (He.ga K b) := by simpa only [Rp] using r
             subst e; rfl
  | lst ds => simp only [Rp] at r; obtain ⟨a, _, e, _⟩ := r; subst e; rfl
  | tup ds => simp only [Rp] at r; obtain ⟨a, _, e, _⟩ := r; subst e; rfl
  | dct ks ds => simp only [Rp] at r; obtain ⟨a, _, e, _⟩ := r; subst e; rfl
  | ins c ns ds => simp only [Rp] at r; obtain ⟨a, _, _, e, _⟩ := r; subst e; rfl
  | obj i => simp only [Rp] at r; obtain ⟨a, e, _⟩ := r; subst e; rfl
  | scr i => simp only [Rp] at r; obtain ⟨a, e, _⟩ := r; subst e; rfl
  | lam F cl => simp only [Rp] at r; obtain ⟨a, c, dv, e, _⟩ := r; subst e; rfl
  | exn c ns ds => simp only [Rp] at r; obtain ⟨a, d, es, e, _⟩ := r; subst e; rfl
theorem ops_isN : OpS K (fun x y H Q => y = .non ∧ Q (.bl (decide (x = .non))) H) (fIsN false) := fun hid M ad H dx dy x y Q E k rx ry q => by
  cases dy with
  | non =>
    refine ⟨by simpa only [Rp] using ry, ?_⟩
    rw [rp_non rx]
    have q' := q _ ad H Fr.refl k (rp_bl _)
    cases dx <;> exact q'
  | _ => exact q.elim
theorem ops_notN : OpS K (fun x y H Q => y = .non ∧ Q (.bl (!decide (x = .non))) H) (fIsN true) := fun hid M ad H dx dy x y Q E k rx ry q => by
  cases dy with
  | non =>
    refine ⟨by simpa only [Rp] using ry, ?_⟩
    rw [rp_non rx]
    have q' := q _ ad H Fr.refl k (rp_bl _)
    cases dx <;> exact q'
  | _ => exact q.elim

def fLt : D → D → Mem → Res D := fInt (fun _ _ => true) fun i j => .bl (decide (i < j))
def fLe : D → D → Mem → Res D := fInt (fun _ _ => true) fun i j => .bl (decide (i ≤ j))
def fGt : D → D → Mem → Res D := fInt (fun _ _ => true) fun i j => .bl (decide (j < i))
def fGe : D → D → Mem → Res D := fInt (fun _ _ => true) fun i j => .bl (decide (j ≤ i))
theorem ops_lt : OpS K (rI0 fun i j => .bl (decide (i < j))) fLt := ops_int0 fun _ _ _ => rp_bl _
theorem ops_le : OpS K (rI0 fun i j => .bl (decide (i ≤ j))) fLe := ops_int0 fun _ _ _ => rp_bl _
theorem ops_gt : OpS K (rI0 fun i j => .bl (decide (j < i))) fGt := ops_int0 fun _ _ _ => rp_bl _
theorem ops_ge : OpS K (rI0 fun i j => .bl (decide (j ≤ i))) fGe := ops_int0 fun _ _ _ => rp_bl _

def fSub : D → D → Mem → Res D := fInt (fun _ _ => true) fun i j => .int (i - j)
theorem ops_sub : OpS K (rI0 fun i j => .int (i - j)) fSub := ops_int0 fun _ _ _ => rp_int _
def cMulB (i j : Int) : Bool := decide ((-(2 ^ 64) < i ∧ i < 2 ^ 64) ∨ (-(2 ^ 64) < j ∧ j < 2 ^ 64))
def fMulI : D → D → Mem → Res D := fInt cMulB fun i j => .int (i * j)
theorem ops_mulI : OpS K (rI CMul fun i j => .int (i * j)) fMulI := ops_int (fun _ _ h => by have z := of_decide_eq_true h; exact z) fun _ _ _ => rp_int _
def fFdiv : D → D → Mem → Res D := fInt (fun _ j => decide (0 < j ∧ j.natAbs.log2 < 9000)) fun i j => .int (i / j)
theorem ops_fdiv : OpS K (rI CDivW fun i j => .int (i / j)) fFdiv := ops_int (fun _ _ h => by have z := of_decide_eq_true h; exact z) fun _ _ _ => rp_int _
def fMod : D → D → Mem → Res D := fInt (fun _ j => decide (0 < j)) fun i j => .int (i % j)
theorem ops_mod : OpS K (rI (fun _ j => 0 < j) fun i j => .int (i % j)) fMod := ops_int (fun _ _ h => by have z := of_decide_eq_true h; exact z) fun _ _ _ => rp_int _
def fPow : D → D → Mem → Res D := fInt (fun i j => decide (0 ≤ j ∧ j ≤ 1000000 ∧ i.natAbs < 2 ^ 64)) fun i j => .int (i ^ j.toNat)
theorem ops_pow : OpS K (rI CPow fun i j => .int (i ^ j.toNat)) fPow := ops_int (fun _ _ h => by have z := of_decide_eq_true h; exact z) fun _ _ _ => rp_int _
def fAddI : D → D → Mem → Res D := fInt (fun _ _ => true) fun i j => .int (i + j)
theorem ops_addI : OpS K (rI0 fun i j => .int (i + j)) fAddI := ops_int0 fun _ _ _ => rp_int _
def fAddS : D → D → Mem → Res D := fun x y M => match x, y with
  | .str i, .str j => if i.length + j.length ≤ sizeLine then .ok (.str (i ++ j)) M else .bad
  | _, _ => .bad
abbrev rAddSt : R2 := fun x y H Q => ∃ i j, x = .str i ∧ y = .str j ∧ i.length + j.length ≤ sizeLine ∧ Q (.str (i ++ j)) H
theorem ops_addS : OpS K rAddSt fAddS := fun hid M ad H dx dy x y Q E k rx ry q => by
  cases dx with
  | str i =>
    cases dy with
    | str j =>
      have q' : (pV K hid Q E).P M ad H (if i.length + j.length ≤ sizeLine then .ok (.str (i ++ j)) M else .bad) := q
      by_cases c : i.length + j.length ≤ sizeLine
      · rw [if_pos c] at q'
        exact ⟨i, j, by simpa only [Rp] using rx, by simpa only [Rp] using ry, c, q' _ ad H Fr.refl k (rp_str _)⟩
      · rw [if_neg c] at q'
        exact q'.elim
    | _ => exact q.elim
  | _ => exact q.elim
def fAddL : D → D → Mem → Res D := fun x y M => match x, y with
  | .lst i, .lst j => if i.length + j.length ≤ sizeLine then .ok (.lst (i ++ j)) M else .bad
  | _, _ => .bad
theorem ops_addL : OpS K rCat fAddL := fun hid M ad H dx dy x y Q E k rx ry q => by
  cases dx with
  | lst i =>
    cases dy with
    | lst j =>
      have q' : (pV K hid Q E).P M ad H (if i.length + j.length ≤ sizeLine then .ok (.lst (i ++ j)) M else .bad) := q
      by_cases c : i.length + j.length ≤ sizeLine
      · rw [if_pos c] at q'
        simp only [Rp] at rx ry
        obtain ⟨a, vs, e1, h1, h2⟩ := rx
        obtain ⟨b, ws, e2, h3, h4⟩ := ry
        refine ⟨a, b, vs, ws, e1, e2, h1.1, h3.1, by rw [h2.len, h4.len]; exact c, fun p hp => ?_⟩
        obtain ⟨f, k2, r2⟩ := new_lst k hp (h2.append h4)
        exact q' _ _ _ f k2 r2
      · rw [if_neg c] at q'
        exact q'.elim
    | _ => exact q.elim
  | _ => exact q.elim
def fAddT : D → D → Mem → Res D := fun x y M => match x, y with
  | .tup i, .tup j => if i.length + j.length ≤ sizeLine then .ok (.tup (i ++ j)) M else .bad
  | _, _ => .bad
theorem ops_addT : OpS K (rCatA K) fAddT := fun hid M ad H dx dy x y Q E k rx ry q => by
  cases dx with
  | tup i =>
    cases dy with
    | tup j =>
      have q' : (pV K hid Q E).P M ad H (if i.length + j.length ≤ sizeLine then .ok (.tup (i ++ j)) M else .bad) := q
      by_cases c : i.length + j.length ≤ sizeLine
      · rw [if_pos c] at q'
        have rx0 := rx
        have ry0 := ry
        simp only [Rp] at rx ry
        obtain ⟨a, vs, e1, h1, h2⟩ := rx
        obtain ⟨b, ws, e2, h3, h4⟩ := ry
        refine ⟨a, b, vs, ws, e1, e2, h1.sq, h3.sq, by rw [h2.len, h4.len]; exact c, fun z => ?_, fun _ z => ?_, fun _ _ p hp => ?_⟩
        · have z1 : i = [] := List.length_eq_zero_iff.mp (by rw [← h2.len, z]; rfl)
          refine q' _ ad H Fr.refl k ?_
          rw [z1, List.nil_append, ← e2]
          exact ry0
        · have z1 : j = [] := List.length_eq_zero_iff.mp (by rw [← h4.len, z]; rfl)
          refine q' _ ad H Fr.refl k ?_
          rw [z1, List.append_nil, ← e1]
          exact rx0
        · obtain ⟨f, k2, r2⟩ := new_tup k hp (h2.append h4)
          exact q' _ _ _ f k2 r2
      · rw [if_neg c] at q'
        exact q'.elim
    | _ => exact q.elim
  | _ => exact q.elim
def fAdd : D → D → Mem → Res D := fun x y M => (fAddI x y M).els ((fAddS x y M).els ((fAddL x y M).els (fAddT x y M)))
def rAddA (K : PySem.W.Frag) : R2 := fun x y H Q => (rI0 fun i j => .int (i + j)) x y H Q ∨ (rAddSt x y H Q ∨ (rCat x y H Q ∨ rCatA K x y H Q))
theorem ops_add : OpS K (rAddA K) fAdd := ops_addI.or (ops_addS.or (ops_addL.or ops_addT))
theorem opr_add {X : Cx} : OpR X (binaryOp .Add) (rAddA X.K) := op_add.or (op_add_str.or (op_cat.or op_catA))

def fMulL : D → D → Mem → Res D := fun x y M => match x, y with
  | .lst i, .int n => if 0 ≤ n ∧ n < 2 ^ 63 ∧ i.length * n.toNat ≤ sizeLine then .ok (.lst (List.replicate n.toNat i).flatten) M else .bad
  | _, _ => .bad
def fMul : D → D → Mem → Res D := fun x y M => (fMulI x y M).els (fMulL x y M)

def fInSg (neg : Bool) : D → D → Mem → Res D := fun x y M => match x, y with
  | .str i, .str j => match i.cps.toList with
    | [c] => .ok (.bl (if neg then !decide (c ∈ j.cps.toList) else decide (c ∈ j.cps.toList))) M
    | _ => .bad
  | _, _ => .bad
theorem sg_of {i : Str} {c : Nat} (h : i.cps.toList = [c]) : i = ⟨#[c]⟩ := by
  obtain ⟨a⟩ := i
  have e : a = #[c] := by
    apply Array.toList_inj.mp
    exact h
  rw [e]
theorem ops_inSg : OpS K (fun x y H Q => ∃ (c : Nat) (z : Str), x = .str ⟨#[c]⟩ ∧ y = .str z ∧ Q (.bl (decide (c ∈ z.cps.toList))) H) (fInSg false) := fun hid M ad H dx dy x y Q E k rx ry q => by
  cases dx with
  | str i =>
    cases dy with
    | str j =>
      have ex : x = .str i := by simpa only [Rp] using rx
      have ey : y = .str j := by simpa only [Rp] using ry
      have q0 : (pV K hid Q E).P M ad H (match i.cps.toList with
        | [c] => .ok (.bl (decide (c ∈ j.cps.toList))) M
        | _ => .bad) := q
      cases e : i.cps.toList with
      | nil =>
        rw [e] at q0
        exact q0.elim
      | cons c r =>
        cases r with
        | nil =>
          rw [e] at q0
          exact ⟨c, j, by rw [ex, sg_of e], ey, q0 _ ad H Fr.refl k (rp_bl _)⟩
        | cons c2 r2 =>
          rw [e] at q0
          exact q0.elim
    | _ => exact q.elim
  | _ => exact q.elim
theorem ops_notInSg : OpS K (fun x y H Q => ∃ (c : Nat) (z : Str), x = .str ⟨#[c]⟩ ∧ y = .str z ∧ Q (.bl (!decide (c ∈ z.cps.toList))) H) (fInSg true) := fun hid M ad H dx dy x y Q E k rx ry q => by
  cases dx with
  | str i =>
    cases dy with
    | str j =>
      have ex : x = .str i := by simpa only [Rp] using rx
      have ey : y = .str j := by simpa only [Rp] using ry
      have q0 : (pV K hid Q E).P M ad H (match i.cps.toList with
        | [c] => .ok (.bl (!decide (c ∈ j.cps.toList))) M
        | _ => .bad) := q
      cases e : i.cps.toList with
      | nil =>
        rw [e] at q0
        exact q0.elim
      | cons c r =>
        cases r with
        | nil =>
          rw [e] at q0
          exact ⟨c, j, by rw [ex, sg_of e], ey, q0 _ ad H Fr.refl k (rp_bl _)⟩
        | cons c2 r2 =>
          rw [e] at q0
          exact q0.elim
    | _ => exact q.elim
  | _ => exact q.elim
def seqOf : D → Option (List D)
  | .lst ds => some ds
  | .tup ds => some ds
  | _ => none
theorem seqOf_rp {W : Wd} {d : D} {v : V} {ds : List D} (h : seqOf d = some ds) (r : Rp K W d v) : ∃ p vs, v = .ref p ∧ (SqL K W.H p vs ∨ SqT K W.H p vs) ∧ RpL K W ds vs := by
  cases d with
  | lst es =>
    cases h
    simp only [Rp] at r
    obtain ⟨a, vs, e, h1, h2⟩ := r
    exact ⟨a, vs, e, .inl (SqL.of h1.1), h2⟩
  | tup es =>
    cases h
    simp only [Rp] at r
    obtain ⟨a, vs, e, h1, h2⟩ := r
    exact ⟨a, vs, e, .inr h1.sq, h2⟩
  | _ => cases h
def fInSq (neg : Bool) : D → D → Mem → Res D := fun x y M => match scV x, (seqOf y).bind scL with
  | some u, some us => .ok (.bl (if neg then !inV u us else inV u us)) M
  | _, _ => .bad
theorem ops_inSq (neg : Bool) : OpS K (rIn K neg) (fInSq neg) := fun hid M ad H dx dy x y Q E k rx ry q => by
  unfold fInSq at q
  cases e1 : scV dx with
  | none =>
    rw [e1] at q
    exact q.elim
  | some u =>
    cases e3 : seqOf dy with
    | none =>
      rw [e1, e3] at q
      exact q.elim
    | some ds =>
      cases e2 : scL ds with
      | none =>
        rw [e1, e3] at q
        have q' : (pV K hid Q E).P M ad H (match (some u : Option V), scL ds with
          | some u, some us => .ok (.bl (if neg then !inV u us else inV u us)) M
          | _, _ => .bad) := q
        rw [e2] at q'
        exact q'.elim
      | some us =>
        rw [e1, e3] at q
        have q' : (pV K hid Q E).P M ad H (match (some u : Option V), scL ds with
          | some u, some us => .ok (.bl (if neg then !inV u us else inV u us)) M
          | _, _ => .bad) := q
        rw [e2] at q'
        obtain ⟨p, vs, e4, h1, h2⟩ := seqOf_rp e3 ry
        have e5 := scL_rp e2 h2
        subst e5
        have ex := scV_rp e1 rx
        subst ex
        exact ⟨p, vs, e4, h1, scV_flat e1, scL_flat e2, q' _ ad H Fr.refl k (rp_bl _)⟩
def fIn (neg : Bool) : D → D → Mem → Res D := fun x y M => (fInSg neg x y M).els (fInSq neg x y M)
def rInA (K : PySem.W.Frag) : R2 := fun x y H Q => (∃ (c : Nat) (z : Str), x = .str ⟨#[c]⟩ ∧ y = .str z ∧ Q (.bl (decide (c ∈ z.cps.toList))) H) ∨ rIn K false x y H Q
def rNotInA (K : PySem.W.Frag) : R2 := fun x y H Q => (∃ (c : Nat) (z : Str), x = .str ⟨#[c]⟩ ∧ y = .str z ∧ Q (.bl (!decide (c ∈ z.cps.toList))) H) ∨ rIn K true x y H Q
theorem ops_in : OpS K (rInA K) (fIn false) := ops_inSg.or (ops_inSq false)
theorem ops_notIn : OpS K (rNotInA K) (fIn true) := ops_notInSg.or (ops_inSq true)
theorem opr_in {X : Cx} : OpR X (compareOp .In) (rInA X.K) := op_in_sign.or op_in_seq
theorem opr_notIn {X : Cx} : OpR X (compareOp .NotIn) (rNotInA X.K) := op_notIn_sign.or op_notIn_seq

def ixD {α : Type} (xs : List α) (i : Int) : Option α := atI xs i
theorem atI_rp {W : Wd} {ds : List D} {vs : List V} {i : Int} {d : D} (r : RpL K W ds vs) (h : atI ds i = some d) : ∃ v, atI vs i = some v ∧ Rp K W d v := by
  unfold atI at h ⊢
  rw [r.len]
  cases e : ixN ds.length i with
  | none =>
    rw [e] at h
    cases h
  | some j =>
    rw [e] at h
    exact r.get (show ds[j]? = some d from h)
def fIx : D → D → Mem → Res D := fun x y M => match x, y with
  | .lst ds, .int i => match atI ds i with
    | some d => .ok d M
    | none => .bad
  | .tup ds, .int i => match atI ds i with
    | some d => .ok d M
    | none => .bad
  | .str z, .int i => if z.length ≤ sizeLine then (match atI z.cps.toList i with
    | some c => .ok (.str ⟨#[c]⟩) M
    | none => .bad) else .bad
  | .obj j, .int i => match M[j]? with
    | some (.lst ds) => (match atI ds i with
      | some d => .ok d M
      | none => .bad)
    | _ => .bad
  | _, _ => .bad
theorem ops_ix : OpS K (rIx K) fIx := fun hid M ad H dx dy x y Q E k rx ry q => by
  cases dy with
  | int i =>
    have ey : y = .int i := by simpa only [Rp] using ry
    cases dx with
    | lst ds =>
      simp only [Rp] at rx
      obtain ⟨a, vs, e, h1, h2⟩ := rx
      have q' : (pV K hid Q E).P M ad H (match atI ds i with
        | some d => .ok d M
        | none => .bad) := q
      cases e2 : atI ds i with
      | none =>
        rw [e2] at q'
        exact q'.elim
      | some d =>
        rw [e2] at q'
        obtain ⟨v, h3, h4⟩ := atI_rp h2 e2
        exact .inl ⟨a, vs, i, v, e, ey, SqL.of h1.1, h3, q' v ad H Fr.refl k h4⟩
    | tup ds =>
      simp only [Rp] at rx
      obtain ⟨a, vs, e, h1, h2⟩ := rx
      have q' : (pV K hid Q E).P M ad H (match atI ds i with
        | some d => .ok d M
        | none => .bad) := q
      cases e2 : atI ds i with
      | none =>
        rw [e2] at q'
        exact q'.elim
      | some d =>
        rw [e2] at q'
        obtain ⟨v, h3, h4⟩ := atI_rp h2 e2
        exact .inr (.inl ⟨a, vs, i, v, e, ey, h1.sq, h3, q' v ad H Fr.refl k h4⟩)
    | str z =>
      have q' : (pV K hid Q E).P M ad H (if z.length ≤ sizeLine then (match atI z.cps.toList i with
        | some c => .ok (.str ⟨#[c]⟩) M
        | none => .bad) else .bad) := q
      by_cases c : z.length ≤ sizeLine
      · rw [if_pos c] at q'
        cases e2 : atI z.cps.toList i with
        | none =>
          rw [e2] at q'
          exact q'.elim
        | some c2 =>
          rw [e2] at q'
          exact .inr (.inr ⟨z, i, c2, by simpa only [Rp] using rx, ey, c, e2, q' _ ad H Fr.refl k (rp_str _)⟩)
      · rw [if_neg c] at q'
        exact q'.elim
    | obj j =>
      simp only [Rp] at rx
      obtain ⟨a, e, h1⟩ := rx
      have q' : (pV K hid Q E).P M ad H (match M[j]? with
        | some (.lst ds) => (match atI ds i with
          | some d => .ok d M
          | none => .bad)
        | _ => .bad) := q
      cases e3 : M[j]? with
      | none =>
        rw [e3] at q'
        exact q'.elim
      | some o =>
        rw [e3] at q'
        cases o with
        | lst ds =>
          obtain ⟨vs, h2, h5⟩ := k.ob j _ a e3 h1
          have q'' : (pV K hid Q E).P M ad H (match atI ds i with
            | some d => .ok d M
            | none => .bad) := q'
          cases e2 : atI ds i with
          | none =>
            rw [e2] at q''
            exact q''.elim
          | some d =>
            rw [e2] at q''
            obtain ⟨v, h3, h4⟩ := atI_rp h5 e2
            exact .inl ⟨a, vs, i, v, e, ey, SqL.of h2, h3, q'' v ad H Fr.refl k h4⟩
        | _ => exact q'.elim
    | _ => exact q.elim
  | _ => cases dx <;> exact q.elim
end
end DL

end
section
set_option maxHeartbeats 4000000
namespace DL
open PySem PySem.Spec PyProof.Rows L2
abbrev W0 : WX := fun _ _ _ _ => False

def ow (ρ : Rho) (σ : L2.St) (a : Addr) : Prop := ∃ (i : Nat) (o : MO), ρ[i]? = some (Sl.own o) ∧ σ[i]? = some (some (V.ref a))
def hS (hid : Addr → Prop) (ρ : Rho) (σ : L2.St) (a : Addr) : Prop := hid a ∨ ow ρ σ a
structure StS (K : PySem.W.Frag) (hid : Addr → Prop) (M : Mem) (ad : List Addr) (H : Hp) (ρ : Rho) (σ : L2.St) : Prop where
  ok : Ok K (hS hid ρ σ) M ad H
  rp : RpS K (hS hid ρ σ) M ad H ρ σ
  nh : ∀ a, ow ρ σ a → ¬ hid a
structure FrG (hid h1 h2 : Addr → Prop) (M : Mem) (ad : List Addr) (H : Hp) (M' : Mem) (ad' : List Addr) (H' : Hp) : Prop where
  le : Le (wd h1 M ad H) (wd h2 M' ad' H')
  hidk : ∀ a, hid a → H' a = H a
  dom : ∀ a, H a ≠ none → H' a ≠ none
theorem FrG.trans {hid h1 h2 h3 : Addr → Prop} {M M1 M2 : Mem} {ad ad1 ad2 : List Addr} {H H1 H2 : Hp} (a : FrG hid h1 h2 M ad H M1 ad1 H1) (b : FrG hid h2 h3 M1 ad1 H1 M2 ad2 H2) : FrG hid h1 h3 M ad H M2 ad2 H2 :=
  ⟨a.le.trans b.le, fun c h => (b.hidk c h).trans (a.hidk c h), fun c h => b.dom c (a.dom c h)⟩
theorem FrG.of {hid h : Addr → Prop} {M M1 : Mem} {ad ad1 : List Addr} {H H1 : Hp} (f : Fr h M ad H M1 ad1 H1) (hh : ∀ a, hid a → h a) : FrG hid h h M ad H M1 ad1 H1 := ⟨f.le, fun a z => f.hidk a (hh a z), f.dom⟩
theorem FrG.refl {hid h : Addr → Prop} {M : Mem} {ad : List Addr} {H : Hp} : FrG hid h h M ad H M ad H := ⟨Le.refl _, fun _ _ => rfl, fun _ z => z⟩
theorem FrG.fr {hid : Addr → Prop} {M M1 : Mem} {ad ad1 : List Addr} {H H1 : Hp} (f : FrG hid hid hid M ad H M1 ad1 H1) : Fr hid M ad H M1 ad1 H1 := ⟨f.le, f.hidk, f.dom⟩

inductive Fl where
  | nx (ρ : Rho) | rt (d : D) | bk (ρ : Rho) | ct (ρ : Rho) | ex (ρ : Rho) (c : Str) (ns : List Str) (ds : List D)
abbrev SS := Rho → Mem → Res Fl
def PostS (K : PySem.W.Frag) (W : WX) (hid h1 : Addr → Prop) (M : Mem) (ad : List Addr) (H : Hp) (E : Ends) : Res Fl → Prop
  | .ok (.nx ρ') M' => ∀ σ' ad' H', FrG hid h1 (hS hid ρ' σ') M ad H M' ad' H' → StS K hid M' ad' H' ρ' σ' → E.nx σ' H'
  | .ok (.bk ρ') M' => ∀ σ' ad' H', FrG hid h1 (hS hid ρ' σ') M ad H M' ad' H' → StS K hid M' ad' H' ρ' σ' → E.bk σ' H'
  | .ok (.ct ρ') M' => ∀ σ' ad' H', FrG hid h1 (hS hid ρ' σ') M ad H M' ad' H' → StS K hid M' ad' H' ρ' σ' → E.ct σ' H'
  | .ok (.rt d) M' => ∀ v ad' H', FrG hid h1 hid M ad H M' ad' H' → Ok K hid M' ad' H' → Rp K (wd hid M' ad' H') d v → E.rt v H'
  | .ok (.ex ρ' c ns ds) M' => ∀ σ' dx es ad' H', FrG hid h1 (hS hid ρ' σ') M ad H M' ad' H' → StS K hid M' ad' H' ρ' σ' → es.map (·.1) = ns → (H' dx = some (.xd es) ∧ ¬ badOf (hS hid ρ' σ') M' ad' dx) → RpL K (wd hid M' ad' H') ds (es.map (·.2)) → W (.ref (He.ga K c)) (some dx) σ' H'
  | _ => False
def SndS (K : PySem.W.Frag) (W : WX) (ts : TS) (m : SS) : Prop := ∀ (hid : Addr → Prop) (σ : L2.St) (ρ : Rho) (M : Mem) (ad : List Addr) (H : Hp) (E : Ends), StS K hid M ad H ρ σ →
  PostS K W hid (hS hid ρ σ) M ad H E (m ρ M) → ts E σ H
section
variable {K : PySem.W.Frag} {hid h1 h2 : Addr → Prop} {M M1 : Mem} {ad ad1 : List Addr} {H H1 : Hp} {σ : L2.St} {ρ : Rho} {W : WX}
theorem PostS.fr {E : Ends} (f : FrG hid h1 h2 M ad H M1 ad1 H1) : ∀ {r : Res Fl}, PostS K W hid h1 M ad H E r → PostS K W hid h2 M1 ad1 H1 E r
  | .ok (.nx ρ') M', h => fun σ' ad' H' g s => h σ' ad' H' (f.trans g) s
  | .ok (.bk ρ') M', h => fun σ' ad' H' g s => h σ' ad' H' (f.trans g) s
  | .ok (.ct ρ') M', h => fun σ' ad' H' g s => h σ' ad' H' (f.trans g) s
  | .ok (.rt d) M', h => fun v ad' H' g k r => h v ad' H' (f.trans g) k r
  | .ok (.ex ρ' c ns ds) M', h => fun σ' dx es ad' H' g s => h σ' dx es ad' H' (f.trans g) s
  | .exc _ _ _ _, h => h
  | .bad, h => h
/-- an expression's outcome in a statement -/
def liftE {α : Type} (r : Res α) (ρ : Rho) (f : α → Mem → Res Fl) : Res Fl := match r with
  | .ok a M => f a M
  | .exc c ns ds M => .ok (.ex ρ c ns ds) M
  | .bad => .bad
theorem StS.fr (s : StS K hid M ad H ρ σ) (f : Fr (hS hid ρ σ) M ad H M1 ad1 H1) (k : Ok K (hS hid ρ σ) M1 ad1 H1) : StS K hid M1 ad1 H1 ρ σ := ⟨k, s.rp.fr f, s.nh⟩
theorem StS.unhid (s : StS K hid M ad H ρ σ) : Ok K hid M ad H := s.ok.unhid fun _ z => .inl z
theorem Rp.unhid {hid' : Addr → Prop} (h : ∀ a, hid a → hid' a) {d : D} {v : V} (r : Rp K (wd hid' M ad H) d v) : Rp K (wd hid M ad H) d v := Rp.le (Le.unhid h) d r
theorem RpL.unhid {hid' : Addr → Prop} (h : ∀ a, hid a → hid' a) {d : List D} {v : List V} (r : RpL K (wd hid' M ad H) d v) : RpL K (wd hid M ad H) d v := RpL.le (Le.unhid h) d r
theorem Snd.stepS {te : TE} {m : SE} {E : Ends} (s : Snd K W te m) (st : StS K hid M ad H ρ σ) {f : D → Mem → Res Fl} (h : PostS K W hid (hS hid ρ σ) M ad H E (liftE (m ρ M) ρ f)) {R : VK}
    (nx : ∀ d M1 x ad1 H1, Fr (hS hid ρ σ) M ad H M1 ad1 H1 → StS K hid M1 ad1 H1 ρ σ → Rp K (wd (hS hid ρ σ) M1 ad1 H1) d x → PostS K W hid (hS hid ρ σ) M1 ad1 H1 E (f d M1) → R x H1) : te σ H R := by
  refine s _ σ ρ M ad H R st.ok st.rp ?_
  cases e : m ρ M with
  | ok d M1 =>
    rw [e] at h
    exact fun v ad1 H1 f1 k1 rp => nx d M1 v ad1 H1 f1 (st.fr f1 k1) rp (PostS.fr (FrG.of f1 fun _ z => .inl z) h)
  | exc c ns ds M1 =>
    rw [e] at h
    intro dx es ad' H' f1 k1 e1 e2 e3
    exact h σ dx es ad' H' (FrG.of f1 fun _ z => .inl z) (st.fr f1 k1) e1 e2 (RpL.unhid (fun _ z => .inl z) e3)
  | bad =>
    rw [e] at h
    exact h
theorem SndT.stepS {tt : TT} {m : ST} {E : Ends} (s : SndT K W tt m) (st : StS K hid M ad H ρ σ) {f : Bool → Mem → Res Fl} (h : PostS K W hid (hS hid ρ σ) M ad H E (liftE (m ρ M) ρ f)) {R : Bool → Hp → Prop}
    (nx : ∀ b M1 ad1 H1, Fr (hS hid ρ σ) M ad H M1 ad1 H1 → StS K hid M1 ad1 H1 ρ σ → PostS K W hid (hS hid ρ σ) M1 ad1 H1 E (f b M1) → R b H1) : tt σ H R := by
  refine s _ σ ρ M ad H R st.ok st.rp ?_
  cases e : m ρ M with
  | ok d M1 =>
    rw [e] at h
    exact fun ad1 H1 f1 k1 => nx d M1 ad1 H1 f1 (st.fr f1 k1) (PostS.fr (FrG.of f1 fun _ z => .inl z) h)
  | exc c ns ds M1 =>
    rw [e] at h
    intro dx es ad' H' f1 k1 e1 e2 e3
    exact h σ dx es ad' H' (FrG.of f1 fun _ z => .inl z) (st.fr f1 k1) e1 e2 (RpL.unhid (fun _ z => .inl z) e3)
  | bad =>
    rw [e] at h
    exact h
theorem SndA.stepS {ta : TA} {m : SA} {E : Ends} (s : SndA K W ta m) (st : StS K hid M ad H ρ σ) {f : List D → Mem → Res Fl} (h : PostS K W hid (hS hid ρ σ) M ad H E (liftE (m ρ M) ρ f)) {R : List V → Hp → Prop}
    (nx : ∀ ds M1 xs ad1 H1, Fr (hS hid ρ σ) M ad H M1 ad1 H1 → StS K hid M1 ad1 H1 ρ σ → RpL K (wd (hS hid ρ σ) M1 ad1 H1) ds xs → PostS K W hid (hS hid ρ σ) M1 ad1 H1 E (f ds M1) → R xs H1) : ta σ H R := by
  refine s _ σ ρ M ad H R st.ok st.rp ?_
  cases e : m ρ M with
  | ok d M1 =>
    rw [e] at h
    exact fun v ad1 H1 f1 k1 rp => nx d M1 v ad1 H1 f1 (st.fr f1 k1) rp (PostS.fr (FrG.of f1 fun _ z => .inl z) h)
  | exc c ns ds M1 =>
    rw [e] at h
    intro dx es ad' H' f1 k1 e1 e2 e3
    exact h σ dx es ad' H' (FrG.of f1 fun _ z => .inl z) (st.fr f1 k1) e1 e2 (RpL.unhid (fun _ z => .inl z) e3)
  | bad =>
    rw [e] at h
    exact h

def mNext : SS := fun ρ M => .ok (.nx ρ) M
def mSeq (m n : SS) : SS := fun ρ M => (m ρ M).bind fun fl M1 => match fl with
  | .nx ρ1 => n ρ1 M1
  | .rt d => .ok (.rt d) M1
  | .bk ρ1 => .ok (.bk ρ1) M1
  | .ct ρ1 => .ok (.ct ρ1) M1
  | .ex ρ1 c ns ds => .ok (.ex ρ1 c ns ds) M1
theorem snd_next : SndS K W tNext mNext := fun hid σ ρ M ad H E st h => h σ ad H FrG.refl st
theorem snd_seq {t u : TS} {m n : SS} (h1 : SndS K W t m) (h2 : SndS K W u n) : SndS K W (tSeq t u) (mSeq m n) := fun hid σ ρ M ad H E st h => by
  refine h1 hid σ ρ M ad H { E with nx := u E } st ?_
  have h' : PostS K W hid (hS hid ρ σ) M ad H E ((m ρ M).bind fun fl M1 => match fl with
    | .nx ρ1 => n ρ1 M1
    | .rt d => .ok (.rt d) M1
    | .bk ρ1 => .ok (.bk ρ1) M1
    | .ct ρ1 => .ok (.ct ρ1) M1
    | .ex ρ1 c ns ds => .ok (.ex ρ1 c ns ds) M1) := h
  cases e : m ρ M with
  | ok fl M1 =>
    rw [e] at h'
    cases fl with
    | nx ρ1 => exact fun σ1 ad1 H1 f s => h2 hid σ1 ρ1 M1 ad1 H1 E s (PostS.fr f h')
    | rt d => exact h'
    | bk ρ1 => exact h'
    | ct ρ1 => exact h'
    | ex ρ1 c ns ds => exact h'
  | exc c ns ds M1 =>
    rw [e] at h'
    exact h'
  | bad =>
    rw [e] at h'
    exact h'
def mIfS (t : ST) (m n : SS) : SS := fun ρ M => liftE (t ρ M) ρ fun b M1 => if b = true then m ρ M1 else n ρ M1
theorem snd_ifS {tt : TT} {t u : TS} {c : ST} {m n : SS} (h0 : SndT K W tt c) (h1 : SndS K W t m) (h2 : SndS K W u n) : SndS K W (tIfS tt t u) (mIfS c m n) := fun hid σ ρ M ad H E st h => by
  refine h0.stepS st h fun b M1 ad1 H1 f s q => ?_
  cases b with
  | true =>
    rw [if_pos rfl] at q
    exact iteT (h1 hid σ ρ M1 ad1 H1 E s q)
  | false =>
    rw [if_neg (by decide)] at q
    exact iteF (h2 hid σ ρ M1 ad1 H1 E s q)
def mRet (m : SE) : SS := fun ρ M => liftE (m ρ M) ρ fun d M1 => .ok (.rt d) M1
theorem snd_ret {te : TE} {m : SE} (h : Snd K W te m) : SndS K W (tRet te) (mRet m) := fun hid σ ρ M ad H E st q => by
  refine h.stepS st q fun d M1 x ad1 H1 f s r q => ?_
  exact q x ad1 H1 ⟨Le.unhid fun _ z => .inl z, fun _ _ => rfl, fun _ z => z⟩ s.unhid (Rp.unhid (fun _ z => .inl z) r)
def mRetN : SS := fun ρ M => .ok (.rt .non) M
theorem snd_retN : SndS K W tRetN mRetN := fun hid σ ρ M ad H E st q => q .non ad H ⟨Le.unhid fun _ z => .inl z, fun _ _ => rfl, fun _ z => z⟩ st.unhid (by simp [Rp])
def mDrop (m : SE) : SS := fun ρ M => liftE (m ρ M) ρ fun _ M1 => .ok (.nx ρ) M1
theorem snd_drop {te : TE} {m : SE} (h : Snd K W te m) : SndS K W (tDrop te) (mDrop m) := fun hid σ ρ M ad H E st q => by
  refine h.stepS st q fun d M1 x ad1 H1 f s r q => ?_
  exact q σ ad1 H1 FrG.refl s
def mBreak : SS := fun ρ M => .ok (.bk ρ) M
def mCont : SS := fun ρ M => .ok (.ct ρ) M
theorem snd_break : SndS K W tBreak mBreak := fun hid σ ρ M ad H E st h => h σ ad H FrG.refl st
theorem snd_cont : SndS K W tCont mCont := fun hid σ ρ M ad H E st h => h σ ad H FrG.refl st

/-- what a slot owns behind a store it owned before -/
def OwnSub (ρ : Rho) (σ : L2.St) (ρ' : Rho) (σ' : L2.St) : Prop := ∀ (j : Nat) (o : MO), ρ'[j]? = some (.own o) → ρ[j]? = some (.own o) ∧ σ'[j]? = σ[j]?
theorem OwnSub.refl : OwnSub ρ σ ρ σ := fun _ _ e => ⟨e, rfl⟩
theorem OwnSub.trans {ρ' ρ'' : Rho} {σ' σ'' : L2.St} (a : OwnSub ρ σ ρ' σ') (b : OwnSub ρ' σ' ρ'' σ'') : OwnSub ρ σ ρ'' σ'' := fun j o e =>
  let ⟨e1, e2⟩ := b j o e
  let ⟨e3, e4⟩ := a j o e1
  ⟨e3, e2.trans e4⟩
theorem set_own {i : Nat} {d : D} {j : Nat} {o : MO} (e : (ρ.set i (Sl.val d))[j]? = some (.own o)) : j ≠ i ∧ ρ[j]? = some (.own o) := by
  by_cases c : i = j
  · subst c
    rw [List.getElem?_set_self'] at e
    cases q : ρ[i]? with
    | none =>
      rw [q] at e
      cases e
    | some z =>
      rw [q] at e
      cases e
  · rw [List.getElem?_set_ne c] at e
    exact ⟨fun z => c z.symm, e⟩
theorem set_oth {i : Nat} {d : D} {j : Nat} {z : Sl} (hz : ∀ d', z ≠ .val d') (e : (ρ.set i (Sl.val d))[j]? = some z) : j ≠ i ∧ ρ[j]? = some z := by
  by_cases c : i = j
  · subst c
    rw [List.getElem?_set_self'] at e
    cases q : ρ[i]? with
    | none =>
      rw [q] at e
      cases e
    | some y =>
      rw [q] at e
      exact absurd (Option.some.inj e).symm (hz d)
  · rw [List.getElem?_set_ne c] at e
    exact ⟨fun z => c z.symm, e⟩
theorem RpS.put {i : Nat} {d : D} {v : V} (rp : RpS K hid M ad H ρ σ) (r : Rp K (wd hid M ad H) d v) :
    RpS K hid M ad H (ρ.set i (.val d)) (σ.set i (some v)) ∧ OwnSub ρ σ (ρ.set i (.val d)) (σ.set i (some v)) := by
  have sub : OwnSub ρ σ (ρ.set i (.val d)) (σ.set i (some v)) := fun j o e => by
    obtain ⟨ne, e3⟩ := set_own e
    exact ⟨e3, List.getElem?_set_ne (fun z => ne z.symm)⟩
  refine ⟨⟨?_, ?_, ?_, ?_, ?_, ?_⟩, sub⟩
  · rw [List.length_set, List.length_set, rp.len]
  · intro j u e
    by_cases c : i = j
    · subst c
      rw [List.getElem?_set_self'] at e ⊢
      cases q : ρ[i]? with
      | none =>
        rw [q] at e
        cases e
      | some z =>
        rw [q] at e
        cases e
        have hl : i < σ.length := by
          rw [rp.len]
          exact (List.getElem?_eq_some_iff.mp q).1
        exact ⟨v, by rw [List.getElem?_eq_getElem hl] <;> rfl, r⟩
    · rw [List.getElem?_set_ne c] at e ⊢
      exact rp.val j u e
  · intro j o e
    obtain ⟨e3, e4⟩ := sub j o e
    obtain ⟨a, g1, g2, g3⟩ := rp.own j o e3
    exact ⟨a, e4.trans g1, g2, g3⟩
  · intro j l o u a e1 e2 e3 e4
    obtain ⟨e1, q1⟩ := sub j o e1
    obtain ⟨e2, q2⟩ := sub l u e2
    exact rp.inj j l o u a e1 e2 (q1 ▸ e3) (q2 ▸ e4)
  · intro j es e
    exact rp.env j es (set_oth (fun d' z => by cases z) e).2
  · intro j c ns ds e
    obtain ⟨ne, e1⟩ := set_oth (fun d' z => by cases z) e
    obtain ⟨a, g1, g2⟩ := rp.cau j c ns ds e1
    exact ⟨a, (List.getElem?_set_ne (fun z => ne z.symm)).trans g1, g2⟩
/-- behind stores that own nothing new -/
theorem StS.sub {ρ' : Rho} {σ' : L2.St} (st : StS K hid M ad H ρ σ) (rp : RpS K (hS hid ρ σ) M ad H ρ' σ') (os : OwnSub ρ σ ρ' σ') : StS K hid M ad H ρ' σ' ∧ FrG hid (hS hid ρ σ) (hS hid ρ' σ') M ad H M ad H := by
  have sub : ∀ a, hS hid ρ' σ' a → hS hid ρ σ a := by
    rintro a (z | ⟨j, o, e1, e2⟩)
    · exact .inl z
    · obtain ⟨e3, e4⟩ := os j o e1
      exact .inr ⟨j, o, e3, e4 ▸ e2⟩
  refine ⟨⟨st.ok.unhid sub, ⟨rp.len, fun i d e => ?_, fun i o e => ?_, rp.inj, fun i es e => (rp.env i es e).le (Le.unhid sub), fun i c ns ds e => let ⟨a, g1, g2⟩ := rp.cau i c ns ds e; ⟨a, g1, g2.le (Le.unhid sub)⟩⟩, ?_⟩, ⟨Le.unhid sub, fun _ _ => rfl, fun _ z => z⟩⟩
  · obtain ⟨v, g1, g2⟩ := rp.val i d e
    exact ⟨v, g1, Rp.unhid sub g2⟩
  · obtain ⟨a, g1, g2, g3⟩ := rp.own i o e
    exact ⟨a, g1, .inr ⟨i, o, e, g1⟩, MOk.le (Le.unhid sub) rfl g3⟩
  · rintro a ⟨j, o, e1, e2⟩
    obtain ⟨e3, e4⟩ := os j o e1
    exact st.nh a ⟨j, o, e3, e4 ▸ e2⟩
theorem StS.put {i : Nat} {d : D} {v : V} (st : StS K hid M ad H ρ σ) (r : Rp K (wd (hS hid ρ σ) M ad H) d v) :
    StS K hid M ad H (ρ.set i (.val d)) (σ.set i (some v)) ∧ FrG hid (hS hid ρ σ) (hS hid (ρ.set i (.val d)) (σ.set i (some v))) M ad H M ad H := by
  obtain ⟨r1, r2⟩ := st.rp.put (i := i) r
  exact st.sub r1 r2
/-- targets: what a store makes of the slots -/
abbrev SG := D → Rho → Option Rho
def SndG (K : PySem.W.Frag) (g : TG) (m : SG) (is : List Nat) : Prop := ∀ (hid : Addr → Prop) (σ : L2.St) (ρ ρ' : Rho) (M : Mem) (ad : List Addr) (H : Hp) (d : D) (v : V) (R : L2.St → Hp → Prop), RpS K hid M ad H ρ σ →
  Rp K (wd hid M ad H) d v → m d ρ = some ρ' → (∀ σ', RpS K hid M ad H ρ' σ' → OwnSub ρ σ ρ' σ' → (∀ j, j ∉ is → σ'[j]? = σ[j]?) → σ'.length = σ.length → R σ' H) → g v σ H R
def mgName (i : Nat) : SG := fun d ρ => some (ρ.set i (.val d))
theorem sndg_name (i : Nat) : SndG K (gName i) (mgName i) [i] := fun hid σ ρ ρ' M ad H d v R st r e h => by
  have e' := Option.some.inj e
  subst e'
  obtain ⟨s1, s2⟩ := st.put (i := i) r
  exact h _ s1 s2 (fun j hj => List.getElem?_set_ne (fun z => hj (by rw [z]; exact List.mem_singleton_self _))) (by rw [List.length_set])
/-- several targets -/
abbrev SGs := List D → Rho → Option Rho
def SndGs (K : PySem.W.Frag) (g : TGs) (m : SGs) (is : List Nat) : Prop := ∀ (hid : Addr → Prop) (σ : L2.St) (ρ ρ' : Rho) (M : Mem) (ad : List Addr) (H : Hp) (ds : List D) (vs : List V) (R : L2.St → Hp → Prop), RpS K hid M ad H ρ σ →
  RpL K (wd hid M ad H) ds vs → m ds ρ = some ρ' → (∀ σ', RpS K hid M ad H ρ' σ' → OwnSub ρ σ ρ' σ' → (∀ j, j ∉ is → σ'[j]? = σ[j]?) → σ'.length = σ.length → R σ' H) → g vs σ H R
def mgNil : SGs := fun ds ρ => match ds with
  | [] => some ρ
  | _ :: _ => none
def mgCons (m : SG) (r : SGs) : SGs := fun ds ρ => match ds with
  | [] => none
  | d :: ds => (m d ρ).bind fun ρ1 => r ds ρ1
theorem sndg_nil : SndGs K gNil mgNil [] := fun hid σ ρ ρ' M ad H ds vs R st r e h => by
  cases ds with
  | nil =>
    have e' := Option.some.inj e
    subst e'
    exact ⟨r.nilI, h σ st OwnSub.refl (fun _ _ => rfl) rfl⟩
  | cons d ds => cases e
theorem sndg_cons {g : TG} {gs : TGs} {m : SG} {ms : SGs} {is js : List Nat} (h1 : SndG K g m is) (h2 : SndGs K gs ms js) : SndGs K (gCons g gs) (mgCons m ms) (is ++ js) := fun hid σ ρ ρ' M ad H ds vs R st r e h => by
  cases ds with
  | nil => cases e
  | cons d ds =>
    obtain ⟨v, rs, e1, r1, r2⟩ := r.consI
    refine ⟨v, rs, e1, ?_⟩
    have e' : (m d ρ).bind (fun ρ1 => ms ds ρ1) = some ρ' := e
    cases q : m d ρ with
    | none =>
      rw [q] at e'
      cases e'
    | some ρ1 =>
      rw [q] at e'
      refine h1 hid σ ρ ρ1 M ad H d v _ st r1 q fun σ1 s1 f1 o1 l1 => ?_
      refine h2 hid σ1 ρ1 ρ' M ad H ds rs _ s1 r2 e' fun σ2 s2 f2 o2 l2 => ?_
      refine h σ2 s2 (f1.trans f2) (fun j hj => ?_) (l2.trans l1)
      rw [List.mem_append] at hj
      exact (o2 j fun z => hj (.inr z)).trans (o1 j fun z => hj (.inl z))
def mgTup (n : Nat) (m : SGs) : SG := fun d ρ => match d with
  | .tup ds => if ds.length = n then m ds ρ else none
  | _ => none
theorem sndg_tup {n : Nat} {g : TGs} {m : SGs} {is : List Nat} (h1 : SndGs K g m is) : SndG K (gTup K n g) (mgTup n m) is := fun hid σ ρ ρ' M ad H d v R st r e h => by
  cases d with
  | tup ds =>
    simp only [Rp] at r
    obtain ⟨a, vs, e1, r1, r2⟩ := r
    have e' : (if ds.length = n then m ds ρ else none) = some ρ' := e
    by_cases c : ds.length = n
    · rw [if_pos c] at e'
      exact ⟨a, vs, e1, r1.sq, by rw [r2.len]; exact c, h1 hid σ ρ ρ' M ad H ds vs R st r2 e' h⟩
    · rw [if_neg c] at e'
      cases e'
  | _ => cases e
/-- target = e -/
def mAsg (m : SE) (g : SG) : SS := fun ρ M => liftE (m ρ M) ρ fun d M1 => match g d ρ with
  | some ρ1 => .ok (.nx ρ1) M1
  | none => .bad
theorem snd_asg {te : TE} {g : TG} {m : SE} {mg : SG} {is : List Nat} (h : Snd K W te m) (hg : SndG K g mg is) : SndS K W (tAsg te g) (mAsg m mg) := fun hid σ ρ M ad H E st q => by
  refine h.stepS st q fun d M1 x ad1 H1 f s r q => ?_
  cases e : mg d ρ with
  | none =>
    rw [e] at q
    exact q.elim
  | some ρ1 =>
    rw [e] at q
    refine hg _ σ ρ ρ1 M1 ad1 H1 d x _ s.rp r e fun σ1 r1 o1 _ _ => ?_
    obtain ⟨s1, f1⟩ := s.sub r1 o1
    exact q σ1 ad1 H1 f1 s1
/-- a, b = e1, e2 -/
def mPar (i j : Nat) (m : SA) : SS := fun ρ M => liftE (m ρ M) ρ fun ds M1 => match ds with
  | [d, e] => .ok (.nx ((ρ.set i (.val d)).set j (.val e))) M1
  | _ => .bad
theorem snd_par {i j : Nat} {ta : TA} {m : SA} (h : SndA K W ta m) : SndS K W (tPar i j ta) (mPar i j m) := fun hid σ ρ M ad H E st q => by
  refine h.stepS st q fun ds M1 xs ad1 H1 f s r q => ?_
  match ds, q with
  | [d, e], q =>
    obtain ⟨v, r1, e1, h1, h2⟩ := r.consI
    obtain ⟨w, r2, e2, h3, h4⟩ := h2.consI
    have e3 := h4.nilI
    subst e1 e2 e3
    obtain ⟨s1, f1⟩ := s.put (i := i) h1
    obtain ⟨s2, f2⟩ := s1.put (i := j) (Rp.le f1.le e h3)
    exact ⟨v, w, rfl, q _ ad1 H1 (f1.trans f2) s2⟩
  | [], q => exact q.elim
  | [_], q => exact q.elim
  | _ :: _ :: _ :: _, q => exact q.elim
end
end DL

end
section
set_option maxHeartbeats 4000000
namespace DL
open PySem PySem.Spec PyProof.Rows L2
/-- the iterator yields the items, as long as what is kept is kept -/
def Wk (K : PySem.W.Frag) (hid : Addr → Prop) (M : Mem) (ad : List Addr) (H : Hp) (J : It) (ds : List D) : Prop :=
  ∀ (hid' : Addr → Prop) (M' : Mem) (ad' : List Addr) (H' : Hp), Le (wd hid M ad H) (wd hid' M' ad' H') → Ok K hid' M' ad' H' →
    (∀ (i : Nat) (d : D), ds[i]? = some d → J.go i H' ∧ ∀ x H2, J.yld i H' x H2 → Fr hid' M' ad' H' M' ad' H2 ∧ Ok K hid' M' ad' H2 ∧ Rp K (wd hid' M' ad' H2) d x) ∧ J.stop ds.length H'
theorem Wk.le {K : PySem.W.Frag} {hid hid' : Addr → Prop} {M M' : Mem} {ad ad' : List Addr} {H H' : Hp} {J : It} {ds : List D} (w : Wk K hid M ad H J ds) (l : Le (wd hid M ad H) (wd hid' M' ad' H')) : Wk K hid' M' ad' H' J ds :=
  fun h2 M2 a2 H2 l2 k2 => w h2 M2 a2 H2 (l.trans l2) k2
abbrev SI := Rho → Mem → Res (List D)
def pI (K : PySem.W.Frag) (hid : Addr → Prop) (R : It → Hp → Prop) (E : XK) : Pk K hid E (List D) where
  P M ad H r := match r with
    | .ok ds M' => ∀ J ad' H', Fr hid M ad H M' ad' H' → Ok K hid M' ad' H' → Wk K hid M' ad' H' J ds → R J H'
    | .exc c ns ds M' => PostX K hid M ad H E c ns ds M'
    | .bad => False
  fr {M ad H M1 ad1 H1 r} f h := match r, h with
    | .ok d M', h => fun v ad' H' g k rp => h v ad' H' (f.trans g) k rp
    | .exc _ _ _ _, h => PostX.fr f h
    | .bad, h => h
  ex h := h
  no h := h
def SndI (K : PySem.W.Frag) (W : WX) (wi : TI) (m : SI) : Prop := ∀ (hid : Addr → Prop) (σ : L2.St) (ρ : Rho) (M : Mem) (ad : List Addr) (H : Hp) (R : It → Hp → Prop), Ok K hid M ad H → RpS K hid M ad H ρ σ →
  (pI K hid R (wx W σ)).P M ad H (m ρ M) → wi σ H R
section
variable {K : PySem.W.Frag} {hid h1 h2 : Addr → Prop} {M M1 : Mem} {ad ad1 : List Addr} {H H1 : Hp} {σ : L2.St} {ρ : Rho} {W : WX}

theorem rpl_at {W : Wd} {ds : List D} {vs : List V} (r : RpL K W ds vs) {i : Nat} {d : D} (e : ds[i]? = some d) : ∃ v, vs[i]? = some v ∧ Rp K W d v := r.get e
def mIList (m : SE) : SI := fun ρ M => (m ρ M).bind fun d M1 => match d with
  | .lst ds => .ok ds M1
  | _ => .bad
theorem sndi_list {te : TE} {m : SE} (s : Snd K W te m) : SndI K W (iList K te) (mIList m) := fun hid σ ρ M ad H R k r h => by
  refine s.step k r (pI K hid R (wx W σ)) h fun d M1 x ad1 H1 f1 k1 rx r1 h1 => ?_
  cases d with
  | lst ds =>
    simp only [Rp] at rx
    obtain ⟨a, vs, e, l1, l2⟩ := rx
    refine ⟨a, e, ⟨vs, SqL.of l1.1⟩, h1 (Itl K a) ad1 H1 Fr.refl k1 ?_⟩
    intro hid' M' ad' H' le k'
    have l1' := l1.le le
    have l2' := RpL.le le ds l2
    refine ⟨fun i d e1 => ?_, ⟨vs, SqL.of l1'.1, Nat.le_of_eq l2.len⟩⟩
    obtain ⟨v, e2, rv⟩ := l2'.get e1
    refine ⟨⟨vs, v, SqL.of l1'.1, e2⟩, fun x H2 y => ?_⟩
    obtain ⟨y1, y2⟩ := y
    subst y1
    have e3 := y2 vs (SqL.of l1'.1)
    rw [e2] at e3
    cases e3
    exact ⟨Fr.refl, k', rv⟩
  | _ => exact h1.elim
def mITup (m : SE) : SI := fun ρ M => (m ρ M).bind fun d M1 => match d with
  | .tup ds => .ok ds M1
  | _ => .bad
theorem sndi_tup {te : TE} {m : SE} (s : Snd K W te m) : SndI K W (iTup K te) (mITup m) := fun hid σ ρ M ad H R k r h => by
  refine s.step k r (pI K hid R (wx W σ)) h fun d M1 x ad1 H1 f1 k1 rx r1 h1 => ?_
  cases d with
  | tup ds =>
    simp only [Rp] at rx
    obtain ⟨a, vs, e, l1, l2⟩ := rx
    refine ⟨a, e, ⟨vs, l1.sq⟩, h1 (Itt K a) ad1 H1 Fr.refl k1 ?_⟩
    intro hid' M' ad' H' le k'
    have l1' := l1.le le
    have l2' := RpL.le le ds l2
    refine ⟨fun i d e1 => ?_, ⟨vs, l1'.sq, Nat.le_of_eq l2.len⟩⟩
    obtain ⟨v, e2, rv⟩ := l2'.get e1
    refine ⟨⟨vs, v, l1'.sq, e2⟩, fun x H2 y => ?_⟩
    obtain ⟨y1, y2⟩ := y
    subst y1
    have e3 := y2 vs l1'.sq
    rw [e2] at e3
    cases e3
    exact ⟨Fr.refl, k', rv⟩
  | _ => exact h1.elim
def intsD (lo : Int) (n : Nat) : List D := (List.range n).map fun (i : Nat) => D.int (lo + (i : Int))
theorem intsD_at {lo : Int} {n i : Nat} {d : D} (e : (intsD lo n)[i]? = some d) : i < n ∧ d = .int (lo + i) := by
  unfold intsD at e
  rw [List.getElem?_map] at e
  by_cases c : i < n
  · rw [List.getElem?_range c] at e
    exact ⟨c, (Option.some.inj e).symm⟩
  · rw [List.getElem?_eq_none (by simpa using c)] at e
    cases e
theorem intsD_len (lo : Int) (n : Nat) : (intsD lo n).length = n := by simp [intsD]
theorem wk_range {lo : Int} {n : Nat} : Wk K hid M ad H (Itr lo n) (intsD lo n) := fun hid' M' ad' H' le k' => by
  refine ⟨fun i d e1 => ?_, by rw [intsD_len]; exact Nat.le_refl _⟩
  obtain ⟨c, e2⟩ := intsD_at e1
  subst e2
  refine ⟨c, fun x H2 y => ?_⟩
  obtain ⟨y1, y2⟩ := y
  subst y1 y2
  exact ⟨Fr.refl, k', rp_int _⟩
def mRng1 (m : SA) : SI := fun ρ M => (m ρ M).bind fun ds M1 => match ds with
  | [.int j] => if -(2 ^ 62) ≤ j ∧ j < 2 ^ 62 then .ok (intsD 0 j.toNat) M1 else .bad
  | _ => .bad
theorem rpl_int1 {W : Wd} {j : Int} {vs : List V} (r : RpL K W [.int j] vs) : vs = [.int j] := by
  obtain ⟨v, r1, e1, h1, h2⟩ := r.consI
  have e2 := h2.nilI
  have e3 : v = .int j := by simpa only [Rp] using h1
  rw [e1, e2, e3]
theorem sndi_rng1 {ta : TA} {m : SA} (s : SndA K W ta m) : SndI K W (iRng1 ta) (mRng1 m) := fun hid σ ρ M ad H R k r h => by
  refine s.step k r (pI K hid R (wx W σ)) h fun ds M1 xs ad1 H1 f1 k1 rx r1 h1 => ?_
  match ds, h1, rx with
  | [.int j], h1, rx =>
    have h1' : (pI K hid R (wx W σ)).P M1 ad1 H1 (if -(2 ^ 62) ≤ j ∧ j < 2 ^ 62 then .ok (intsD 0 j.toNat) M1 else .bad) := h1
    by_cases c : -(2 ^ 62) ≤ j ∧ j < 2 ^ 62
    · rw [if_pos c] at h1'
      exact ⟨j, rpl_int1 rx, c.1, c.2, h1' _ ad1 H1 Fr.refl k1 wk_range⟩
    · rw [if_neg c] at h1'
      exact h1'.elim
  | [], h1, _ => exact h1.elim
  | .non :: _, h1, _ => exact h1.elim
  | .bl _ :: _, h1, _ => exact h1.elim
  | .str _ :: _, h1, _ => exact h1.elim
  | .ty _ :: _, h1, _ => exact h1.elim
  | .cls _ :: _, h1, _ => exact h1.elim
  | .lst _ :: _, h1, _ => exact h1.elim
  | .tup _ :: _, h1, _ => exact h1.elim
  | .dct _ _ :: _, h1, _ => exact h1.elim
  | .ins _ _ _ :: _, h1, _ => exact h1.elim
  | .obj _ :: _, h1, _ => exact h1.elim
  | .scr _ :: _, h1, _ => exact h1.elim
  | .lam _ _ :: _, h1, _ => exact h1.elim
  | .exn _ _ _ :: _, h1, _ => exact h1.elim
  | .int _ :: _ :: _, h1, _ => exact h1.elim
def mRng2 (m : SA) : SI := fun ρ M => (m ρ M).bind fun ds M1 => match ds with
  | [.int i, .int j] => if -(2 ^ 62) ≤ i ∧ i < 2 ^ 62 ∧ -(2 ^ 62) ≤ j ∧ j < 2 ^ 62 then .ok (intsD i (j - i).toNat) M1 else .bad
  | _ => .bad
theorem sndi_rng2 {ta : TA} {m : SA} (s : SndA K W ta m) : SndI K W (iRng2 ta) (mRng2 m) := fun hid σ ρ M ad H R k r h => by
  refine s.step k r (pI K hid R (wx W σ)) h fun ds M1 xs ad1 H1 f1 k1 rx r1 h1 => ?_
  have key : (∃ i j, ds = [.int i, .int j]) ∨ (pI K hid R (wx W σ)).P M1 ad1 H1 .bad := by
    match ds, h1 with
    | [.int i, .int j], _ => exact .inl ⟨i, j, rfl⟩
    | [], h1 => exact .inr h1
    | [_], h1 => cases ‹D› <;> exact .inr h1
    | [d, e], h1 => cases d <;> first | exact .inr h1 | (cases e <;> first | exact .inl ⟨_, _, rfl⟩ | exact .inr h1)
    | d :: e :: _ :: _, h1 => cases d <;> first | exact .inr h1 | (cases e <;> exact .inr h1)
  rcases key with ⟨i, j, e⟩ | z
  · subst e
    obtain ⟨v, r1, e1, g1, g2⟩ := rx.consI
    have e2 : v = .int i := by simpa only [Rp] using g1
    have e3 := rpl_int1 g2
    have h1' : (pI K hid R (wx W σ)).P M1 ad1 H1 (if -(2 ^ 62) ≤ i ∧ i < 2 ^ 62 ∧ -(2 ^ 62) ≤ j ∧ j < 2 ^ 62 then .ok (intsD i (j - i).toNat) M1 else .bad) := h1
    by_cases c : -(2 ^ 62) ≤ i ∧ i < 2 ^ 62 ∧ -(2 ^ 62) ≤ j ∧ j < 2 ^ 62
    · rw [if_pos c] at h1'
      exact ⟨i, j, by rw [e1, e2, e3], c, h1' _ ad1 H1 Fr.refl k1 wk_range⟩
    · rw [if_neg c] at h1'
      exact h1'.elim
  · exact z.elim
def signsD (x : Str) : List D := x.cps.toList.map fun c => D.str ⟨#[c]⟩
def mIStr (m : SE) : SI := fun ρ M => (m ρ M).bind fun d M1 => match d with
  | .str x => .ok (signsD x) M1
  | _ => .bad
theorem sndi_str {te : TE} {m : SE} (s : Snd K W te m) : SndI K W (iStr te) (mIStr m) := fun hid σ ρ M ad H R k r h => by
  refine s.step k r (pI K hid R (wx W σ)) h fun d M1 x ad1 H1 f1 k1 rx r1 h1 => ?_
  cases d with
  | str z =>
    have e : x = .str z := by simpa only [Rp] using rx
    refine ⟨z, e, h1 (Its z) ad1 H1 Fr.refl k1 ?_⟩
    intro hid' M' ad' H' le k'
    have hl : (signsD z).length = z.cps.size := by simp [signsD]
    refine ⟨fun i d e1 => ?_, by rw [hl]; exact Nat.le_refl _⟩
    unfold signsD at e1
    rw [List.getElem?_map] at e1
    cases q : z.cps.toList[i]? with
    | none =>
      rw [q] at e1
      cases e1
    | some c =>
      rw [q] at e1
      have e2 : D.str ⟨#[c]⟩ = d := Option.some.inj e1
      subst e2
      have q' : z.cps[i]? = some c := by simpa using q
      refine ⟨(by have z := (List.getElem?_eq_some_iff.mp q).1; simpa using z : i < _), fun x H2 y => ?_⟩
      obtain ⟨y1, c2, y2, y3⟩ := y
      rw [q'] at y2
      cases y2
      subst y1 y3
      exact ⟨Fr.refl, k', rp_str _⟩
  | _ => exact h1.elim
def zipD (xs ys : List D) : List D := (xs.zip ys).map fun p => D.tup [p.1, p.2]
def mZip (m : SA) : SI := fun ρ M => (m ρ M).bind fun ds M1 => match ds with
  | [.lst xs, .lst ys] => .ok ((xs.zip ys).map fun p => D.tup [p.1, p.2]) M1
  | [.tup xs, .tup ys] => .ok ((xs.zip ys).map fun p => D.tup [p.1, p.2]) M1
  | _ => .bad
theorem sndi_zip {ta : TA} {m : SA} (s : SndA K W ta m) : SndI K W (RZ.iZipA K ta) (mZip m) := fun hid σ ρ M ad H R k r h => by
  refine s.step k r (pI K hid R (wx W σ)) h fun ds M1 xs ad1 H1 f1 k1 rx r1 h1 => ?_
  have key : (∃ i j, ds = [.lst i, .lst j]) ∨ (∃ i j, ds = [.tup i, .tup j]) ∨ (pI K hid R (wx W σ)).P M1 ad1 H1 .bad := by
    match ds, h1 with
    | [], h1 => exact .inr (.inr h1)
    | [_], h1 => cases ‹D› <;> exact .inr (.inr h1)
    | [d, e], h1 => cases d <;> first | exact .inr (.inr h1) | (cases e <;> first | exact .inl ⟨_, _, rfl⟩ | exact .inr (.inl ⟨_, _, rfl⟩) | exact .inr (.inr h1))
    | d :: e :: _ :: _, h1 => cases d <;> first | exact .inr (.inr h1) | (cases e <;> exact .inr (.inr h1))
  rcases key with ⟨us, ws, e⟩ | ⟨us, ws, e⟩ | z
  · subst e
    obtain ⟨v, r1, e1, g1, g2⟩ := rx.consI
    obtain ⟨w, r2, e2, g3, g4⟩ := g2.consI
    have e3 := g4.nilI
    simp only [Rp] at g1 g3
    obtain ⟨a, as, ea, la, ra⟩ := g1
    obtain ⟨b, bs, eb, lb, rb⟩ := g3
    refine ⟨a, b, as, bs, by rw [e1, e2, e3, ea, eb], .inl ⟨SqL.of la.1, SqL.of lb.1, h1 (Itz K a b) ad1 H1 Fr.refl k1 ?_⟩⟩
    intro hid' M' ad' H' le k'
    have la' := la.le le
    have lb' := lb.le le
    have ra' := RpL.le le us ra
    have rb' := RpL.le le ws rb
    refine ⟨fun i d e1 => ?_, ⟨as, bs, SqL.of la'.1, SqL.of lb'.1, ?_⟩⟩
    · rw [List.getElem?_map] at e1
      cases q : (us.zip ws)[i]? with
      | none =>
        rw [q] at e1
        cases e1
      | some p =>
        rw [q] at e1
        have e5 : D.tup [p.1, p.2] = d := Option.some.inj e1
        subst e5
        obtain ⟨q1, q2⟩ := List.getElem?_zip_eq_some.mp q
        obtain ⟨x, x1, x2⟩ := ra'.get q1
        obtain ⟨y, y1, y2⟩ := rb'.get q2
        refine ⟨⟨as, bs, x, y, SqL.of la'.1, SqL.of lb'.1, x1, y1⟩, fun z H2 t => ?_⟩
        obtain ⟨T, x', y', t1, t2, t3, t4, t5⟩ := t
        have x3 := t4 as (SqL.of la'.1)
        have y3 := t5 bs (SqL.of lb'.1)
        rw [x1] at x3
        rw [y1] at y3
        cases x3
        cases y3
        obtain ⟨f5, k5, r5⟩ := new_tup k' t2 (RpL.cons x2 (RpL.cons y2 RpL.nil))
        subst t1 t3
        exact ⟨f5, k5, r5⟩
    · rw [List.length_map, List.length_zip, ra.len, rb.len]
      omega
  · subst e
    obtain ⟨v, r1, e1, g1, g2⟩ := rx.consI
    obtain ⟨w, r2, e2, g3, g4⟩ := g2.consI
    have e3 := g4.nilI
    simp only [Rp] at g1 g3
    obtain ⟨a, as, ea, la, ra⟩ := g1
    obtain ⟨b, bs, eb, lb, rb⟩ := g3
    refine ⟨a, b, as, bs, by rw [e1, e2, e3, ea, eb], .inr ⟨la.sq, lb.sq, h1 (RZ.ItzT K a b) ad1 H1 Fr.refl k1 ?_⟩⟩
    intro hid' M' ad' H' le k'
    have la' := la.le le
    have lb' := lb.le le
    have ra' := RpL.le le us ra
    have rb' := RpL.le le ws rb
    refine ⟨fun i d e1 => ?_, ⟨as, bs, la'.sq, lb'.sq, ?_⟩⟩
    · rw [List.getElem?_map] at e1
      cases q : (us.zip ws)[i]? with
      | none =>
        rw [q] at e1
        cases e1
      | some p =>
        rw [q] at e1
        have e5 : D.tup [p.1, p.2] = d := Option.some.inj e1
        subst e5
        obtain ⟨q1, q2⟩ := List.getElem?_zip_eq_some.mp q
        obtain ⟨x, x1, x2⟩ := ra'.get q1
        obtain ⟨y, y1, y2⟩ := rb'.get q2
        refine ⟨⟨as, bs, x, y, la'.sq, lb'.sq, x1, y1⟩, fun z H2 t => ?_⟩
        obtain ⟨T, x', y', t1, t2, t3, t4, t5⟩ := t
        have x3 := t4 as (la'.sq)
        have y3 := t5 bs (lb'.sq)
        rw [x1] at x3
        rw [y1] at y3
        cases x3
        cases y3
        obtain ⟨f5, k5, r5⟩ := new_tup k' t2 (RpL.cons x2 (RpL.cons y2 RpL.nil))
        subst t1 t3
        exact ⟨f5, k5, r5⟩
    · rw [List.length_map, List.length_zip, ra.len, rb.len]
      omega
  · exact z.elim
end
end DL

end
section
set_option maxHeartbeats 4000000
namespace DL
open PySem PySem.Spec PyProof.Rows L2
def Res.noX {α : Type} (r : Res α) : Res α := match r with
  | .ok a M => .ok a M
  | _ => .bad
def wipeR (ρ : Rho) : List Nat → Rho
  | [] => ρ
  | v :: vs => (wipeR ρ vs).set v .no
section
variable {K : PySem.W.Frag} {hid h1 h2 : Addr → Prop} {M M1 : Mem} {ad ad1 : List Addr} {H H1 : Hp} {σ : L2.St} {ρ : Rho} {W : WX}
theorem RpS.drop1 (r : RpS K hid M ad H ρ σ) (i : Nat) : RpS K hid M ad H (ρ.set i .no) (σ.set i none) := by
  have ne : ∀ (j : Nat) (z : Sl), (ρ.set i .no)[j]? = some z → z ≠ .no → i ≠ j ∧ ρ[j]? = some z := by
    intro j z e hz
    by_cases c : i = j
    · subst c
      rw [List.getElem?_set_self'] at e
      cases q : ρ[i]? with
      | none =>
        rw [q] at e
        cases e
      | some y =>
        rw [q] at e
        exact absurd (Option.some.inj e).symm hz
    · rw [List.getElem?_set_ne c] at e
      exact ⟨c, e⟩
  refine ⟨by rw [List.length_set, List.length_set, r.len], fun j d e => ?_, fun j o e => ?_, fun j l o u a e1 e2 e3 e4 => ?_, fun j es e => r.env j es (ne j _ e (by intro z; cases z)).2, fun j c ns ds e => ?_⟩
  · obtain ⟨c, e'⟩ := ne j _ e (by intro z; cases z)
    rw [List.getElem?_set_ne c]
    exact r.val j d e'
  · obtain ⟨c, e'⟩ := ne j _ e (by intro z; cases z)
    rw [List.getElem?_set_ne c]
    exact r.own j o e'
  · obtain ⟨c1, e1⟩ := ne j _ e1 (by intro z; cases z)
    obtain ⟨c2, e2⟩ := ne l _ e2 (by intro z; cases z)
    rw [List.getElem?_set_ne c1] at e3
    rw [List.getElem?_set_ne c2] at e4
    exact r.inj j l o u a e1 e2 e3 e4
  · obtain ⟨h, e'⟩ := ne j _ e (by intro z; cases z)
    obtain ⟨a, g1, g2⟩ := r.cau j c ns ds e'
    exact ⟨a, (List.getElem?_set_ne h).trans g1, g2⟩
theorem RpS.wipe (r : RpS K hid M ad H ρ σ) : ∀ vs : List Nat, RpS K hid M ad H (wipeR ρ vs) (L2.wipe σ vs)
  | [] => r
  | v :: vs => (RpS.wipe r vs).drop1 v
theorem RpS.hide {p : Addr} {u : HO} (r : RpS K hid M ad H ρ σ) (hp : H p = none) (hh : ∀ a, hid a → H a ≠ none) : RpS K (hidA hid p) M ad (upd H p u) ρ σ :=
  ⟨r.len, fun i d e => let ⟨v, g1, g2⟩ := r.val i d e; ⟨v, g1, Rp.le (Le.hide hp) d g2⟩,
    fun i o e => let ⟨a, g1, g2, g3⟩ := r.own i o e; ⟨a, g1, .inl g2, MOk.le (Le.hide hp) (upd_ne (fun z => hh a g2 (by rw [z]; exact hp))) g3⟩, r.inj, fun i es e => (r.env i es e).le (Le.hide hp), fun i c ns ds e => let ⟨a, g1, g2⟩ := r.cau i c ns ds e; ⟨a, g1, g2.le (Le.hide hp)⟩⟩
theorem RpS.hidSet {p : Addr} {u : HO} (r : RpS K hid M ad H ρ σ) (hp : hid p) (no : ¬ ow ρ σ p) : RpS K hid M ad (upd H p u) ρ σ :=
  ⟨r.len, fun i d e => let ⟨v, g1, g2⟩ := r.val i d e; ⟨v, g1, Rp.le (Le.hidSet hp) d g2⟩,
    fun i o e => let ⟨a, g1, g2, g3⟩ := r.own i o e; ⟨a, g1, g2, MOk.le (Le.hidSet hp) (upd_ne (fun z => no (z ▸ ⟨i, o, e, g1⟩))) g3⟩, r.inj, fun i es e => (r.env i es e).le (Le.hidSet hp), fun i c ns ds e => let ⟨a, g1, g2⟩ := r.cau i c ns ds e; ⟨a, g1, g2.le (Le.hidSet hp)⟩⟩
theorem wipe_same : ∀ (vs : List Nat) (σ σ' : L2.St), σ'.length = σ.length → (∀ j, j ∉ vs → σ'[j]? = σ[j]?) → L2.wipe σ' vs = L2.wipe σ vs := by
  have wl : ∀ (vs : List Nat) (σ : L2.St), (L2.wipe σ vs).length = σ.length := fun vs σ => by
    induction vs with
    | nil => rfl
    | cons v vs ih =>
      show ((L2.wipe σ vs).set v none).length = σ.length
      rw [List.length_set, ih]
  have wi : ∀ (vs : List Nat) (σ : L2.St) (j : Nat), j ∈ vs → j < σ.length → (L2.wipe σ vs)[j]? = some none := fun vs σ j hj hl => by
    induction vs with
    | nil => cases hj
    | cons v vs ih =>
      show ((L2.wipe σ vs).set v none)[j]? = some none
      by_cases c : v = j
      · subst c
        rw [List.getElem?_set_self (by rw [wl]; exact hl)]
      · rw [List.getElem?_set_ne c]
        exact ih ((List.mem_cons.mp hj).resolve_left fun z => c z.symm)
  intro vs σ σ' hl h
  apply List.ext_getElem?
  intro j
  by_cases c : j ∈ vs
  · by_cases d : j < σ.length
    · rw [wi vs σ' j c (by rw [hl]; exact d), wi vs σ j c d]
    · rw [List.getElem?_eq_none (by rw [wl, hl]; omega), List.getElem?_eq_none (by rw [wl]; omega)]
  · rw [L2.wipe_out c, L2.wipe_out c, h j c]

def lcGo (ρ : Rho) (mg : SG) (tt : ST) (te : SE) : List D → Mem → Res (List D)
  | [], M => .ok [] M
  | d :: r, M => match mg d ρ with
    | none => .bad
    | some ρ1 => (tt ρ1 M).noX.bind fun b M1 => if b = true then (te ρ1 M1).noX.bind fun y M2 => (lcGo ρ mg tt te r M2).bind fun ys M3 => .ok (y :: ys) M3 else lcGo ρ mg tt te r M1
def mLc (mi : SI) (mg : SG) (tt : ST) (te : SE) (vs : List Nat) : SE := fun ρ M => (mi ρ M).bind fun ds M1 => if ds.length ≤ sizeLine then (lcGo (wipeR ρ vs) mg tt te ds M1).bind fun ys M2 => .ok (.lst ys) M2 else .bad
theorem SndI.step {β : Type} {wi : TI} {m : SI} (s : SndI K W wi m) (k : Ok K hid M ad H) (r : RpS K hid M ad H ρ σ) (p : Pk K hid (wx W σ) β) {f : List D → Mem → Res β} (h : p.P M ad H ((m ρ M).bind f)) {R : It → Hp → Prop}
    (nx : ∀ ds M1 J ad1 H1, Fr hid M ad H M1 ad1 H1 → Ok K hid M1 ad1 H1 → Wk K hid M1 ad1 H1 J ds → RpS K hid M1 ad1 H1 ρ σ → p.P M1 ad1 H1 (f ds M1) → R J H1) : wi σ H R := by
  refine s hid σ ρ M ad H R k r ?_
  cases e : m ρ M with
  | ok d M1 =>
    rw [e] at h
    exact fun v ad1 H1 f1 k1 rp => nx d M1 v ad1 H1 f1 k1 rp (r.fr f1) (p.fr f1 h)
  | exc c ns ds M1 =>
    rw [e] at h
    exact p.ex h
  | bad =>
    rw [e] at h
    exact p.no h
/-- the same, as long as the things of G stay as they are -/
def WkG (K : PySem.W.Frag) (G : Addr → Prop) (hid : Addr → Prop) (M : Mem) (ad : List Addr) (H : Hp) (J : It) (ds : List D) : Prop :=
  ∀ (hid' : Addr → Prop) (M' : Mem) (ad' : List Addr) (H' : Hp), Le (wd hid M ad H) (wd hid' M' ad' H') → (∀ b, G b → H' b = H b) → Ok K hid' M' ad' H' →
    (∀ (i : Nat) (d : D), ds[i]? = some d → J.go i H' ∧ ∀ x H2, J.yld i H' x H2 → Fr hid' M' ad' H' M' ad' H2 ∧ Ok K hid' M' ad' H2 ∧ Rp K (wd hid' M' ad' H2) d x) ∧ J.stop ds.length H'
theorem Wk.g {G : Addr → Prop} {J : It} {ds : List D} (w : Wk K hid M ad H J ds) : WkG K G hid M ad H J ds := fun hid' M' ad' H' l _ k => w hid' M' ad' H' l k
theorem WkG.le {G hid' : Addr → Prop} {M' : Mem} {ad' : List Addr} {H' : Hp} {J : It} {ds : List D} (w : WkG K G hid M ad H J ds) (l : Le (wd hid M ad H) (wd hid' M' ad' H')) (e : ∀ b, G b → H' b = H b) : WkG K G hid' M' ad' H' J ds :=
  fun h2 M2 a2 H2 l2 e2 k2 => w h2 M2 a2 H2 (l.trans l2) (fun b z => (e2 b z).trans (e b z)) k2
/-- a comprehension, its source at hand -/
def LcR (g : TG) (tt : TT) (te : TE) (vs : List Nat) (σ : L2.St) (Q : VK) (J : It) (H1 : Hp) : Prop := ∀ D, H1 D = none → ∃ W : Nat → Nat → Hp → Prop, (∃ m, W 0 m (upd H1 D (.lst []))) ∧ ∀ i m H, W i m H →
  (J.stop i H ∧ Q (.ref D) H) ∨ (J.go i H ∧ ∃ Nx : Hp → Prop, (∀ H', Nx H' → ∃ m', m' < m ∧ W (i + 1) m' H') ∧ ∀ x H', J.yld i H x H' → g x (L2.wipe σ vs) H' fun σ2 H2 => L2.wipe σ2 vs = L2.wipe σ vs ∧ tt σ2 H2 fun b H3 =>
    if b = true then te σ2 H3 fun y H4 => ∃ acc, H4 D = some (.lst acc) ∧ acc.length < sizeLine ∧ Nx (upd H4 D (.lst (acc ++ [y]))) else Nx H3)
theorem lc_run {G : Addr → Prop} {g : TG} {tt : TT} {te : TE} {vs is : List Nat} {mg : SG} {mt : ST} {me : SE} {ds : List D} {J : It} {Q : VK} (hg : SndG K g mg is) (hs : ∀ i ∈ is, i ∈ vs) (ht : SndT K W0 tt mt) (he : Snd K W0 te me) (c : ds.length ≤ sizeLine)
    (k1 : Ok K hid M1 ad1 H1) (wk : WkG K G hid M1 ad1 H1 J ds) (hG : ∀ b, G b → hid b) (r1 : RpS K hid M1 ad1 H1 ρ σ)
    (h1' : (pF K hid Q (wx W σ)).P M1 ad1 H1 ((lcGo (wipeR ρ vs) mg mt me ds M1).bind fun ys M2 => .ok (.lst ys) M2)) : LcR g tt te vs σ Q J H1 := by
  intro Da hD
  have nhD : ¬ hid Da := fun z => k1.hh Da z hD
  -- what is left to do behind i turns
  refine ⟨fun i m H' => m = ds.length - i ∧ i ≤ ds.length ∧ ∃ (M' : Mem) (ad' : List Addr) (acc : List V) (dacc : List D),
    Fr hid M1 ad1 H1 M' ad' H' ∧ Ok K (hidA hid Da) M' ad' H' ∧ RpS K (hidA hid Da) M' ad' H' (wipeR ρ vs) (L2.wipe σ vs) ∧ WkG K G (hidA hid Da) M' ad' H' J ds ∧ H' Da = some (.lst acc) ∧ RpL K (wd (hidA hid Da) M' ad' H') dacc acc ∧ acc.length ≤ i ∧
    (pF K hid Q (wx W σ)).P M1 ad1 H1 ((lcGo (wipeR ρ vs) mg mt me (ds.drop i) M').bind fun ys M2 => .ok (.lst (dacc ++ ys)) M2), ⟨ds.length, by simp, Nat.zero_le _, M1, ad1, [], [], Fr.new hD (k1.fresh hD), k1.hide hD, (r1.hide hD k1.hh).wipe vs, wk.le (Le.hide hD) (fun b z => upd_ne (fun e : b = Da => nhD (by rw [← e]; exact hG b z))), upd_same, RpL.nil, Nat.le_refl _, h1'⟩, ?_⟩
  rintro i m H' ⟨rfl, hi2, M', ad', acc, dacc, f', k', r', wk', hacc, racc, hla, q⟩
  by_cases hlt : i < ds.length
  · have e1 : ds[i]? = some ds[i] := List.getElem?_eq_getElem hlt
    have e2 : ds.drop i = ds[i] :: ds.drop (i + 1) := List.drop_eq_getElem_cons hlt
    rw [e2] at q
    obtain ⟨w1, _⟩ := wk' (hidA hid Da) M' ad' H' (Le.refl _) (fun _ _ => rfl) k'
    obtain ⟨go, yl⟩ := w1 i _ e1
    refine .inr ⟨go, _, fun H2 z => ⟨ds.length - (i + 1), by omega, rfl, hlt, z⟩, fun x H2 y => ?_⟩
    obtain ⟨f2, k2, rx⟩ := yl x H2 y
    have q1 : (pF K hid Q (wx W σ)).P M1 ad1 H1 ((match mg ds[i] (wipeR ρ vs) with
      | none => (Res.bad : Res (List D))
      | some ρ1 => (mt ρ1 M').noX.bind fun b M1 => if b = true then (me ρ1 M1).noX.bind fun y M2 => (lcGo (wipeR ρ vs) mg mt me (ds.drop (i + 1)) M2).bind fun ys M3 => .ok (y :: ys) M3 else lcGo (wipeR ρ vs) mg mt me (ds.drop (i + 1)) M1).bind fun ys M2 => .ok (.lst (dacc ++ ys)) M2) := q
    cases eg : mg ds[i] (wipeR ρ vs) with
    | none =>
      rw [eg] at q1
      exact q1.elim
    | some ρ1 =>
      rw [eg] at q1
      have q2 : (pF K hid Q (wx W σ)).P M1 ad1 H1 (((mt ρ1 M').noX.bind fun b M1 => if b = true then (me ρ1 M1).noX.bind fun y M2 => (lcGo (wipeR ρ vs) mg mt me (ds.drop (i + 1)) M2).bind fun ys M3 => .ok (y :: ys) M3 else lcGo (wipeR ρ vs) mg mt me (ds.drop (i + 1)) M1).bind fun ys M2 => .ok (.lst (dacc ++ ys)) M2) := q1
      refine hg _ (L2.wipe σ vs) (wipeR ρ vs) ρ1 M' ad' H2 ds[i] x _ (r'.fr f2) rx eg fun σ2 r2 _ o2 l2 => ⟨?_, ?_⟩
      · rw [wipe_same vs (L2.wipe σ vs) σ2 l2 (fun j hj => o2 j fun z => hj (hs j z))]
        exact wipe_same vs σ (L2.wipe σ vs) (L2.wipe_length σ vs) (fun j hj => L2.wipe_out hj)
      -- the test
      refine ht _ σ2 ρ1 M' ad' H2 _ k2 r2 ?_
      cases et : mt ρ1 M' with
      | exc _ _ _ _ =>
        rw [et] at q2
        exact q2.elim
      | bad =>
        rw [et] at q2
        exact q2.elim
      | ok b M3 =>
        rw [et] at q2
        intro ad3 H3 f3 k3
        have hid3 : ∀ {M4 : Mem} {ad4 : List Addr} {H4 : Hp}, Fr (hidA hid Da) M' ad' H' M4 ad4 H4 → Fr hid M1 ad1 H1 M4 ad4 H4 := fun {M4 ad4 H4} g => by
          refine ⟨⟨?_, fun a o e n => ?_⟩, fun a z => (g.hidk a (.inl z)).trans (f'.hidk a z), fun a z => g.dom a (f'.dom a z)⟩
          · obtain ⟨u1, e1⟩ := f'.le.pre
            obtain ⟨u2, e2⟩ := g.le.pre
            exact ⟨u1 ++ u2, by rw [show ad4 = ad' ++ u2 from e2, show ad' = ad1 ++ u1 from e1, List.append_assoc]⟩
          · obtain ⟨g1, g2⟩ := f'.le.keep a o e n
            have ne : a ≠ Da := fun z => by
              subst z
              have e' : H1 a = some o := e
              rw [hD] at e'
              cases e'
            obtain ⟨g3, g4⟩ := g.le.keep a o g1 fun z => z.elim (fun z => z.elim (fun z => g2 (.inl z)) ne) fun z => g2 (.inr z)
            exact ⟨g3, fun z => g4 (z.elim (fun z => .inl (.inl z)) .inr)⟩
        have fA := f2.trans f3
        cases b with
        | false =>
          rw [if_neg (by decide)]
          have q3 : (pF K hid Q (wx W σ)).P M1 ad1 H1 ((lcGo (wipeR ρ vs) mg mt me (ds.drop (i + 1)) M3).bind fun ys M2 => .ok (.lst (dacc ++ ys)) M2) := q2
          exact ⟨M3, ad3, acc, dacc, hid3 fA, k3, r'.fr fA, wk'.le fA.le (fun b z => fA.hidk b (.inl (hG b z))), (fA.hidk Da (.inr rfl)).trans hacc, RpL.le fA.le dacc racc, Nat.le_succ_of_le hla, q3⟩
        | true =>
          rw [if_pos rfl]
          have q3 : (pF K hid Q (wx W σ)).P M1 ad1 H1 (((me ρ1 M3).noX.bind fun y M2 => (lcGo (wipeR ρ vs) mg mt me (ds.drop (i + 1)) M2).bind fun ys M3 => .ok (y :: ys) M3).bind fun ys M2 => .ok (.lst (dacc ++ ys)) M2) := q2
          refine he _ σ2 ρ1 M3 ad3 H3 _ k3 (r2.fr f3) ?_
          cases ee : me ρ1 M3 with
          | exc _ _ _ _ =>
            rw [ee] at q3
            exact q3.elim
          | bad =>
            rw [ee] at q3
            exact q3.elim
          | ok dy M4 =>
            rw [ee] at q3
            intro vy ad4 H4 f4 k4 ry
            have fB := fA.trans f4
            have q4 : (pF K hid Q (wx W σ)).P M1 ad1 H1 (((lcGo (wipeR ρ vs) mg mt me (ds.drop (i + 1)) M4).bind fun ys M3 => .ok (dy :: ys) M3).bind fun ys M2 => .ok (.lst (dacc ++ ys)) M2) := q3
            have hacc4 : H4 Da = some (.lst acc) := (fB.hidk Da (.inr rfl)).trans hacc
            refine ⟨acc, hacc4, Nat.lt_of_lt_of_le (Nat.lt_of_le_of_lt hla hlt) c, M4, ad4, acc ++ [vy], dacc ++ [dy], ?_, k4.hidSet (.inr rfl), ?_, ?_, upd_same, ?_, ?_, ?_⟩
            · have g := hid3 fB
              refine ⟨⟨g.le.pre, fun a o e n => ?_⟩, fun a z => ?_, fun a z => ?_⟩
              · obtain ⟨g1, g2⟩ := g.le.keep a o e n
                have ne : a ≠ Da := fun z => by
                  subst z
                  have e' : H1 a = some o := e
                  rw [hD] at e'
                  cases e'
                exact ⟨by show upd H4 Da _ a = _; rw [upd_ne ne]; exact g1, g2⟩
              · rw [upd_ne (fun e : a = Da => nhD (by rw [← e]; exact z))]
                exact g.hidk a z
              · by_cases e : a = Da
                · subst e
                  rw [upd_same]
                  simp
                · rw [upd_ne e]
                  exact g.dom a z
            · refine (r'.fr fB).hidSet (.inr rfl) ?_
              rintro ⟨j, o, z1, z2⟩
              obtain ⟨a2, z3, z4, _⟩ := (r1.wipe vs).own j o z1
              rw [z2] at z3
              cases z3
              exact nhD z4
            · exact wk'.le (fB.le.trans (Le.hidSet (.inr rfl))) fun b z => (upd_ne (fun e : b = Da => nhD (by rw [← e]; exact hG b z))).trans (fB.hidk b (.inl (hG b z)))
            · exact (RpL.le (fB.le.trans (Le.hidSet (.inr rfl))) dacc racc).append (RpL.cons (Rp.le (Le.hidSet (.inr rfl)) dy ry) RpL.nil)
            · rw [List.length_append, List.length_singleton]
              omega
            · cases eg2 : lcGo (wipeR ρ vs) mg mt me (ds.drop (i + 1)) M4 with
              | ok ys M5 =>
                rw [eg2] at q4
                show (pF K hid Q (wx W σ)).P M1 ad1 H1 (.ok (.lst (dacc ++ [dy] ++ ys)) M5)
                rw [List.append_assoc]
                exact q4
              | exc _ _ _ _ =>
                rw [eg2] at q4
                exact q4
              | bad =>
                rw [eg2] at q4
                exact q4
  · have e : i = ds.length := by omega
    subst e
    obtain ⟨_, w2⟩ := wk' (hidA hid Da) M' ad' H' (Le.refl _) (fun _ _ => rfl) k'
    rw [List.drop_length] at q
    have q1 : (pF K hid Q (wx W σ)).P M1 ad1 H1 (.ok (.lst (dacc ++ [])) M') := q
    rw [List.append_nil] at q1
    exact .inl ⟨w2, q1 Da _ ad' H' rfl hD f' k' ⟨acc, hacc, racc⟩⟩
theorem snd_lcF {wi : TI} {g : TG} {tt : TT} {te : TE} {vs is : List Nat} {mi : SI} {mg : SG} {mt : ST} {me : SE} (hi : SndI K W wi mi) (hg : SndG K g mg is) (hs : ∀ i ∈ is, i ∈ vs) (ht : SndT K W0 tt mt) (he : Snd K W0 te me) :
    SndF K W (tLc wi g tt te vs) (mLc mi mg mt me vs) := fun hid σ ρ M ad H Q k r h => by
  refine hi.step k r (pF K hid Q (wx W σ)) h fun ds M1 J ad1 H1 f1 k1 wk r1 h1 => ?_
  have h1' : (pF K hid Q (wx W σ)).P M1 ad1 H1 (if ds.length ≤ sizeLine then (lcGo (wipeR ρ vs) mg mt me ds M1).bind fun ys M2 => .ok (.lst ys) M2 else .bad) := h1
  by_cases c : ds.length ≤ sizeLine
  · rw [if_pos c] at h1'
    exact lc_run (G := fun _ => False) hg hs ht he c k1 wk.g (fun _ z => z.elim) r1 h1'
  · rw [if_neg c] at h1'
    exact h1'.elim
end
end DL

end
section
set_option maxHeartbeats 4000000
namespace DL
open PySem PySem.Spec PyProof.Rows L2
section
variable {K : PySem.W.Frag} {hid h1 h2 : Addr → Prop} {M M1 : Mem} {ad ad1 : List Addr} {H H1 : Hp} {σ : L2.St} {ρ : Rho} {W : WX}
theorem SndI.stepS {wi : TI} {m : SI} {E : Ends} (s : SndI K W wi m) (st : StS K hid M ad H ρ σ) {f : List D → Mem → Res Fl} (h : PostS K W hid (hS hid ρ σ) M ad H E (liftE (m ρ M) ρ f)) {R : It → Hp → Prop}
    (nx : ∀ ds M1 J ad1 H1, Fr (hS hid ρ σ) M ad H M1 ad1 H1 → StS K hid M1 ad1 H1 ρ σ → Wk K (hS hid ρ σ) M1 ad1 H1 J ds → PostS K W hid (hS hid ρ σ) M1 ad1 H1 E (f ds M1) → R J H1) : wi σ H R := by
  refine s _ σ ρ M ad H R st.ok st.rp ?_
  cases e : m ρ M with
  | ok d M1 =>
    rw [e] at h
    exact fun v ad1 H1 f1 k1 rp => nx d M1 v ad1 H1 f1 (st.fr f1 k1) rp (PostS.fr (FrG.of f1 fun _ z => .inl z) h)
  | exc c ns ds M1 =>
    rw [e] at h
    intro dx es ad' H' f1 k1 e1 e2 e3
    exact h σ dx es ad' H' (FrG.of f1 fun _ z => .inl z) (st.fr f1 k1) e1 e2 (RpL.unhid (fun _ z => .inl z) e3)
  | bad =>
    rw [e] at h
    exact h
def forGo (mg : SG) (mb : SS) : List D → SS
  | [], ρ, M => .ok (.nx ρ) M
  | d :: r, ρ, M => match mg d ρ with
    | none => .bad
    | some ρ1 => (mb ρ1 M).bind fun fl M1 => match fl with
      | .nx ρ2 => forGo mg mb r ρ2 M1
      | .ct ρ2 => forGo mg mb r ρ2 M1
      | .bk ρ2 => .ok (.nx ρ2) M1
      | .rt d => .ok (.rt d) M1
      | .ex ρ2 c ns ds => .ok (.ex ρ2 c ns ds) M1
def mFor (mi : SI) (mg : SG) (mb : SS) : SS := fun ρ M => liftE (mi ρ M) ρ fun ds M1 => forGo mg mb ds ρ M1
theorem snd_for {wi : TI} {g : TG} {tb : TS} {mi : SI} {mg : SG} {mb : SS} {is : List Nat} (hi : SndI K W wi mi) (hg : SndG K g mg is) (hb : SndS K W tb mb) : SndS K W (tFor wi g tb) (mFor mi mg mb) := fun hid σ ρ M ad H E st h => by
  refine hi.stepS st h fun ds M1 J ad1 H1 f1 s1 wk q1 => ?_
  refine ⟨fun i m σ' H' => m = ds.length - i ∧ i ≤ ds.length ∧ ∃ (ρ' : Rho) (M' : Mem) (ad' : List Addr), StS K hid M' ad' H' ρ' σ' ∧ Wk K (hS hid ρ' σ') M' ad' H' J ds ∧
    PostS K W hid (hS hid ρ' σ') M' ad' H' E (forGo mg mb (ds.drop i) ρ' M'), ⟨ds.length, by simp, Nat.zero_le _, ρ, M1, ad1, s1, wk, q1⟩, ?_⟩
  rintro i m σ' H' ⟨rfl, hi2, ρ', M', ad', s', wk', q⟩
  by_cases hlt : i < ds.length
  · have e1 : ds[i]? = some ds[i] := List.getElem?_eq_getElem hlt
    have e2 : ds.drop i = ds[i] :: ds.drop (i + 1) := List.drop_eq_getElem_cons hlt
    rw [e2] at q
    obtain ⟨w1, _⟩ := wk' _ M' ad' H' (Le.refl _) s'.ok
    obtain ⟨go, yl⟩ := w1 i _ e1
    refine .inr ⟨go, _, fun σ2 H2 z => ⟨ds.length - (i + 1), by omega, rfl, hlt, z⟩, fun x H2 y => ?_⟩
    obtain ⟨f2, k2, rx⟩ := yl x H2 y
    have sA := s'.fr f2 k2
    have q1' : PostS K W hid (hS hid ρ' σ') M' ad' H2 E (match mg ds[i] ρ' with
      | none => (Res.bad : Res Fl)
      | some ρ1 => (mb ρ1 M').bind fun fl M1 => match fl with
        | .nx ρ2 => forGo mg mb (ds.drop (i + 1)) ρ2 M1
        | .ct ρ2 => forGo mg mb (ds.drop (i + 1)) ρ2 M1
        | .bk ρ2 => .ok (.nx ρ2) M1
        | .rt d => .ok (.rt d) M1
        | .ex ρ2 c ns ds => .ok (.ex ρ2 c ns ds) M1) := PostS.fr (FrG.of f2 fun _ z => .inl z) q
    cases eg : mg ds[i] ρ' with
    | none =>
      rw [eg] at q1'
      exact q1'.elim
    | some ρ1 =>
      rw [eg] at q1'
      refine hg _ σ' ρ' ρ1 M' ad' H2 ds[i] x _ sA.rp rx eg fun σ2 r2 o2 _ _ => ?_
      obtain ⟨s2, g2⟩ := sA.sub r2 o2
      have q2 : PostS K W hid (hS hid ρ1 σ2) M' ad' H2 E ((mb ρ1 M').bind fun fl M1 => match fl with
        | .nx ρ2 => forGo mg mb (ds.drop (i + 1)) ρ2 M1
        | .ct ρ2 => forGo mg mb (ds.drop (i + 1)) ρ2 M1
        | .bk ρ2 => .ok (.nx ρ2) M1
        | .rt d => .ok (.rt d) M1
        | .ex ρ2 c ns ds => .ok (.ex ρ2 c ns ds) M1) := PostS.fr g2 q1'
      have wk2 : Wk K (hS hid ρ1 σ2) M' ad' H2 J ds := wk'.le (f2.le.trans g2.le)
      refine hb hid σ2 ρ1 M' ad' H2 _ s2 ?_
      cases eb : mb ρ1 M' with
      | exc _ _ _ _ =>
        rw [eb] at q2
        exact q2
      | bad =>
        rw [eb] at q2
        exact q2
      | ok fl M3 =>
        rw [eb] at q2
        cases fl with
        | nx ρ3 => exact fun σ3 ad3 H3 g3 s3 => ⟨ρ3, M3, ad3, s3, wk2.le g3.le, PostS.fr g3 q2⟩
        | ct ρ3 => exact fun σ3 ad3 H3 g3 s3 => ⟨ρ3, M3, ad3, s3, wk2.le g3.le, PostS.fr g3 q2⟩
        | bk ρ3 => exact q2
        | rt d => exact q2
        | ex ρ3 c ns vs => exact q2
  · have e : i = ds.length := by omega
    subst e
    obtain ⟨_, w2⟩ := wk' _ M' ad' H' (Le.refl _) s'.ok
    rw [List.drop_length] at q
    exact .inl ⟨w2, q σ' ad' H' FrG.refl s'⟩
def whGo (c : ST) (mb : SS) : Nat → SS
  | 0, _, _ => .bad
  | n + 1, ρ, M => liftE (c ρ M) ρ fun b M1 => if b = true then (mb ρ M1).bind fun fl M2 => match fl with
      | .nx ρ2 => whGo c mb n ρ2 M2
      | .ct ρ2 => whGo c mb n ρ2 M2
      | .bk ρ2 => .ok (.nx ρ2) M2
      | .rt d => .ok (.rt d) M2
      | .ex ρ2 c ns ds => .ok (.ex ρ2 c ns ds) M2
    else .ok (.nx ρ) M1
theorem snd_while {tc : TT} {tb : TS} {mc : ST} {mb : SS} (n : Nat) (hc : SndT K W tc mc) (hb : SndS K W tb mb) : SndS K W (tWhile tc tb) (whGo mc mb n) := fun hid σ ρ M ad H E st h => by
  refine ⟨fun m σ' H' => ∃ (ρ' : Rho) (M' : Mem) (ad' : List Addr), StS K hid M' ad' H' ρ' σ' ∧ PostS K W hid (hS hid ρ' σ') M' ad' H' E (whGo mc mb m ρ' M'), ⟨n, ρ, M, ad, st, h⟩, ?_⟩
  rintro m σ' H' ⟨ρ', M', ad', s', q⟩
  cases m with
  | zero => exact q.elim
  | succ m =>
    refine hc.stepS s' q fun b M1 ad1 H1 f1 s1 q1 => ?_
    cases b with
    | false =>
      rw [if_neg (by decide)] at q1
      exact iteF (q1 σ' ad1 H1 FrG.refl s1)
    | true =>
      rw [if_pos rfl] at q1
      refine iteT ⟨_, fun σ2 H2 z => ⟨m, Nat.lt_succ_self m, z⟩, ?_⟩
      refine hb hid σ' ρ' M1 ad1 H1 _ s1 ?_
      have q2 : PostS K W hid (hS hid ρ' σ') M1 ad1 H1 E ((mb ρ' M1).bind fun fl M2 => match fl with
        | .nx ρ2 => whGo mc mb m ρ2 M2
        | .ct ρ2 => whGo mc mb m ρ2 M2
        | .bk ρ2 => .ok (.nx ρ2) M2
        | .rt d => .ok (.rt d) M2
        | .ex ρ2 c ns ds => .ok (.ex ρ2 c ns ds) M2) := q1
      cases eb : mb ρ' M1 with
      | exc _ _ _ _ =>
        rw [eb] at q2
        exact q2
      | bad =>
        rw [eb] at q2
        exact q2
      | ok fl M3 =>
        rw [eb] at q2
        cases fl with
        | nx ρ3 => exact fun σ3 ad3 H3 g3 s3 => ⟨ρ3, M3, ad3, s3, PostS.fr g3 q2⟩
        | ct ρ3 => exact fun σ3 ad3 H3 g3 s3 => ⟨ρ3, M3, ad3, s3, PostS.fr g3 q2⟩
        | bk ρ3 => exact q2
        | rt d => exact q2
        | ex ρ3 c ns vs => exact q2

abbrev GF := List D → Mem → Res D
def spD (K : PySem.W.Frag) (n : Nat) (g : GF) : Sp := fun vs H Q E => ∃ (hid : Addr → Prop) (ds : List D) (M : Mem) (ad : List Addr), ds.length = n ∧ Ok K hid M ad H ∧ RpL K (wd hid M ad H) ds vs ∧ (pV K hid Q E).P M ad H (g ds M)
theorem spD_len {n : Nat} {g : GF} {vs : List V} {Q : VK} {E : XK} (h : spD K n g vs H Q E) : vs.length = n := by
  obtain ⟨_, ds, _, _, e, _, r, _⟩ := h
  rw [r.len, e]
def rho0 (N : Nat) (ds : List D) : Rho := ds.map Sl.val ++ List.replicate (N - ds.length) Sl.no
def mBody (N : Nat) (m : SS) : GF := fun ds M => match m (rho0 N ds) M with
  | .ok (.nx _) M' => .ok .non M'
  | .ok (.rt d) M' => .ok d M'
  | .ok (.ex _ c ns vs) M' => .exc c ns vs M'
  | _ => .bad
theorem rho0_no {N : Nat} {ds : List D} {i : Nat} {o : MO} (h : (rho0 N ds)[i]? = some (.own o)) : False := by
  unfold rho0 at h
  by_cases c : i < ds.length
  · rw [List.getElem?_append_left (by simpa using c), List.getElem?_map] at h
    cases e : ds[i]? with
    | none =>
      rw [e] at h
      cases h
    | some d =>
      rw [e] at h
      cases h
  · rw [List.getElem?_append_right (by simpa using c), List.getElem?_replicate] at h
    split at h <;> cases h
theorem rho0_oth {N : Nat} {ds : List D} {i : Nat} {z : Sl} (h : (rho0 N ds)[i]? = some z) (hv : ∀ d, z ≠ .val d) (hn : z ≠ .no) : False := by
  unfold rho0 at h
  by_cases c : i < ds.length
  · rw [List.getElem?_append_left (by simpa using c), List.getElem?_map] at h
    cases e : ds[i]? with
    | none =>
      rw [e] at h
      cases h
    | some d =>
      rw [e] at h
      exact hv d (Option.some.inj h).symm
  · rw [List.getElem?_append_right (by simpa using c), List.getElem?_replicate] at h
    split at h
    · exact hn (Option.some.inj h).symm
    · cases h
theorem body_ok {E : XK} {Q : VK} {N : List Str} {n : Nat} {ts : TS} {m : SS} (s : SndS K (fun c d _ H' => E c d H') ts m) {vs : List V} (h : spD K n (mBody N.length m) vs H Q E) : ts { nx := fun _ H' => Q .non H', rt := Q } (L2.start N vs) H := by
  obtain ⟨hid, ds, M, ad, e, k, r, q⟩ := h
  have noW : ∀ σ a, ¬ ow (rho0 N.length ds) σ a := fun σ a ⟨i, o, z, _⟩ => rho0_no z
  have sub : ∀ σ a, hS hid (rho0 N.length ds) σ a → hid a := fun σ a z => z.resolve_right (noW σ a)
  have st : StS K hid M ad H (rho0 N.length ds) (L2.start N vs) := by
    refine ⟨k.unhid (sub _), ⟨?_, fun i d z => ?_, fun i o z => (rho0_no z).elim, fun i j o u a z => (rho0_no z).elim, fun i es z => (rho0_oth z (fun d q => by cases q) (fun q => by cases q)).elim, fun i c ns ds z => (rho0_oth z (fun d q => by cases q) (fun q => by cases q)).elim⟩, fun a z => (noW _ a z).elim⟩
    · unfold L2.start rho0
      rw [List.length_append, List.length_append, List.length_map, List.length_map, List.length_replicate, List.length_replicate, r.len]
    · unfold rho0 at z
      by_cases c : i < ds.length
      · rw [List.getElem?_append_left (by simpa using c), List.getElem?_map] at z
        cases e2 : ds[i]? with
        | none =>
          rw [e2] at z
          cases z
        | some d' =>
          rw [e2] at z
          have e3 : d' = d := by
            have := Option.some.inj z
            injection this
          subst e3
          obtain ⟨v, g1, g2⟩ := r.get e2
          refine ⟨v, ?_, Rp.unhid (sub _) g2⟩
          unfold L2.start
          rw [List.getElem?_append_left (by rw [List.length_map, r.len]; exact c), List.getElem?_map, g1]
          rfl
      · rw [List.getElem?_append_right (by simpa using c), List.getElem?_replicate] at z
        split at z <;> cases z
  have fr : ∀ {h2 : Addr → Prop} {M' : Mem} {ad' : List Addr} {H' : Hp}, (∀ a, hid a → h2 a) → FrG hid (hS hid (rho0 N.length ds) (L2.start N vs)) h2 M ad H M' ad' H' → Fr hid M ad H M' ad' H' := fun {h2 M' ad' H'} hh f => by
    refine ⟨(Le.unhid (sub _)).trans (f.le.trans (Le.unhid hh)), f.hidk, f.dom⟩
  refine s hid _ _ M ad H _ st ?_
  unfold mBody at q
  cases em : m (rho0 N.length ds) M with
  | exc _ _ _ _ =>
    rw [em] at q
    exact q.elim
  | bad =>
    rw [em] at q
    exact q.elim
  | ok fl M1 =>
    rw [em] at q
    cases fl with
    | nx ρ1 => exact fun σ1 ad1 H1 f1 s1 => q .non ad1 H1 (fr (fun _ z => .inl z) f1) s1.unhid (by simp [Rp])
    | rt d => exact fun v ad1 H1 f1 k1 r1 => q v ad1 H1 (fr (fun _ z => z) f1) k1 r1
    | ex ρ1 c ns us => exact fun σ1 dx es ad1 H1 f1 s1 e1 e2 e3 => q dx es ad1 H1 (fr (fun _ z => .inl z) f1) s1.unhid e1 ⟨e2.1, fun z => e2.2 (z.elim (fun y => .inl (.inl y)) .inr)⟩ e3
    | bk _ => exact q.elim
    | ct _ => exact q.elim
/-- a def's promise of another making -/
theorem spD_imp {n : Nat} {g g' : GF} (h : ∀ ds M, ds.length = n → g' ds M = .bad ∨ g ds M = g' ds M) {vs : List V} {Q : VK} {E : XK} (q : spD K n g' vs H Q E) : spD K n g vs H Q E := by
  obtain ⟨hid, ds, M, ad, e, k, r, q⟩ := q
  rcases h ds M e with z | z
  · rw [z] at q
    exact q.elim
  · exact ⟨hid, ds, M, ad, e, k, r, by rw [z]; exact q⟩
/-- f(..) -/
def mCall (n : Nat) (g : GF) (dd : List D) (ma : SA) : SE := fun ρ M => (ma ρ M).bind fun ds M1 => if (ds ++ dd).length = n then g (ds ++ dd) M1 else .bad
theorem snd_call {n : Nat} {g : GF} {dd : List D} {dvs : List V} {ta : TA} {ma : SA} (hd : ∀ W : Wd, RpL K W dd dvs) (ha : SndA K W ta ma) : Snd K W (tCallSD (spD K n g) dvs (WE W) ta) (mCall n g dd ma) := fun hid σ ρ M ad H Q k r h => by
  refine ha.step k r (pV K hid Q (wx W σ)) h fun ds M1 xs ad1 H1 f1 k1 rx r1 h1 => ?_
  by_cases c : (ds ++ dd).length = n
  · rw [if_pos c] at h1
    exact ⟨hid, ds ++ dd, M1, ad1, c, k1, rx.append (hd _), h1⟩
  · rw [if_neg c] at h1
    exact h1.elim

def CbS (K : PySem.W.Frag) (r : List V → Hp → VK → Prop) (f : List D → Mem → Res D) : Prop := ∀ (hid : Addr → Prop) (M : Mem) (ad : List Addr) (H : Hp) (ds : List D) (vs : List V) (Q : VK) (E : XK), Ok K hid M ad H → RpL K (wd hid M ad H) ds vs →
  (pV K hid Q E).P M ad H (f ds M) → r vs H Q
def mCB (f : List D → Mem → Res D) (ma : SA) : SE := fun ρ M => (ma ρ M).bind fun ds M1 => f ds M1
theorem snd_cb {r : List V → Hp → VK → Prop} {f : List D → Mem → Res D} {ta : TA} {ma : SA} (hr : CbS K r f) (ha : SndA K W ta ma) : Snd K W (tCB r ta) (mCB f ma) := fun hid σ ρ M ad H Q k rr h => by
  refine ha.step k rr (pV K hid Q (wx W σ)) h fun ds M1 xs ad1 H1 f1 k1 rx r1 h1 => ?_
  exact hr hid M1 ad1 H1 ds xs Q _ k1 rx h1
/-- one argument -/
def f1 (f : D → Mem → Res D) : List D → Mem → Res D := fun ds M => match ds with
  | [d] => f d M
  | _ => .bad
theorem cb1 {r : List V → Hp → VK → Prop} {f : D → Mem → Res D} (h : ∀ (hid : Addr → Prop) (M : Mem) (ad : List Addr) (H : Hp) (d : D) (v : V) (Q : VK) (E : XK), Ok K hid M ad H → Rp K (wd hid M ad H) d v → (pV K hid Q E).P M ad H (f d M) → r [v] H Q) : CbS K r (f1 f) := fun hid M ad H ds vs Q E k rx q => by
  match ds, rx, q with
  | [d], rx, q =>
    obtain ⟨v, r1, e1, g1, g2⟩ := rx.consI
    have e2 := g2.nilI
    subst e1 e2
    exact h hid M ad H d v Q E k g1 q
  | [], _, q => exact q.elim
  | _ :: _ :: _, _, q => exact q.elim
def fLen : D → Mem → Res D := fun d M => match d with
  | .str z => if z.length ≤ sizeLine then .ok (.int z.length) M else .bad
  | .lst ds => .ok (.int ds.length) M
  | .tup ds => .ok (.int ds.length) M
  | _ => .bad
theorem cb_len : CbS K (fun xs H Q => ∃ x n, xs = [x] ∧ LenV K x H n ∧ Q (.int n) H) (f1 fLen) := cb1 fun hid M ad H d v Q E k r q => by
  cases d with
  | str z =>
    have e : v = .str z := by simpa only [Rp] using r
    have q' : (pV K hid Q E).P M ad H (if z.length ≤ sizeLine then .ok (.int z.length) M else .bad) := q
    by_cases c : z.length ≤ sizeLine
    · rw [if_pos c] at q'
      subst e
      exact ⟨_, z.length, rfl, ⟨c, rfl⟩, q' _ ad H Fr.refl k (rp_int _)⟩
    · rw [if_neg c] at q'
      exact q'.elim
  | lst ds =>
    simp only [Rp] at r
    obtain ⟨a, vs, e, l1, l2⟩ := r
    subst e
    exact ⟨_, ds.length, rfl, .inl ⟨vs, SqL.of l1.1, l2.len.symm⟩, q _ ad H Fr.refl k (rp_int _)⟩
  | tup ds =>
    simp only [Rp] at r
    obtain ⟨a, vs, e, l1, l2⟩ := r
    subst e
    exact ⟨_, ds.length, rfl, .inr ⟨vs, l1.sq, l2.len.symm⟩, q _ ad H Fr.refl k (rp_int _)⟩
  | _ => exact q.elim
def fInt1 : D → Mem → Res D := fun d M => match d with
  | .int i => .ok (.int i) M
  | .bl b => .ok (.int (if b then 1 else 0)) M
  | _ => .bad
theorem cb_int1 : CbS K (fun xs H Q => (∃ i, xs = [.int i] ∧ Q (.int i) H) ∨ ∃ k, xs = [.bl k] ∧ Q (.int (if k then 1 else 0)) H) (f1 fInt1) := cb1 fun hid M ad H d v Q E k r q => by
  cases d with
  | int i =>
    have e : v = .int i := by simpa only [Rp] using r
    subst e
    exact .inl ⟨i, rfl, q _ ad H Fr.refl k (rp_int _)⟩
  | bl b =>
    have e : v = .bl b := by simpa only [Rp] using r
    subst e
    exact .inr ⟨b, rfl, q _ ad H Fr.refl k (rp_int _)⟩
  | _ => exact q.elim
def bls : List D → Option (List Bool)
  | [] => some []
  | .bl b :: r => (bls r).map (b :: ·)
  | _ :: _ => none
theorem bls_rp {W : Wd} : ∀ {ds : List D} {bs : List Bool} {vs : List V}, bls ds = some bs → RpL K W ds vs → vs = bs.map V.bl
  | [], bs, vs, h, r => by
    have e := Option.some.inj h
    rw [← e, r.nilI]
    rfl
  | .bl b :: ds, bs, vs, h, r => by
    obtain ⟨v, r', e, h1, h2⟩ := r.consI
    have h' : (bls ds).map (b :: ·) = some bs := h
    cases q : bls ds with
    | none =>
      rw [q] at h'
      cases h'
    | some cs =>
      rw [q] at h'
      have e2 : b :: cs = bs := Option.some.inj h'
      have e3 : v = .bl b := by simpa only [Rp] using h1
      rw [e, e3, bls_rp q h2, ← e2]
      rfl
  | .non :: _, _, _, h, _ => by cases h
  | .int _ :: _, _, _, h, _ => by cases h
  | .str _ :: _, _, _, h, _ => by cases h
  | .ty _ :: _, _, _, h, _ => by cases h
  | .cls _ :: _, _, _, h, _ => by cases h
  | .lst _ :: _, _, _, h, _ => by cases h
  | .tup _ :: _, _, _, h, _ => by cases h
  | .dct _ _ :: _, _, _, h, _ => by cases h
  | .ins _ _ _ :: _, _, _, h, _ => by cases h
  | .obj _ :: _, _, _, h, _ => by cases h
  | .scr _ :: _, _, _, h, _ => by cases h
  | .lam _ _ :: _, _, _, h, _ => by cases h
  | .exn _ _ _ :: _, _, _, h, _ => by cases h
def fAll : D → Mem → Res D := fun d M => match d with
  | .lst ds => match bls ds with
    | some bs => .ok (.bl (bs.all id)) M
    | none => .bad
  | _ => .bad
def fAny : D → Mem → Res D := fun d M => match d with
  | .lst ds => match bls ds with
    | some bs => .ok (.bl (bs.any id)) M
    | none => .bad
  | _ => .bad
theorem cb_all : CbS K (rAll K) (f1 fAll) := cb1 fun hid M ad H d v Q E k r q => by
  cases d with
  | lst ds =>
    simp only [Rp] at r
    obtain ⟨a, vs, e, l1, l2⟩ := r
    have q' : (pV K hid Q E).P M ad H (match bls ds with
      | some bs => .ok (.bl (bs.all id)) M
      | none => .bad) := q
    cases e2 : bls ds with
    | none =>
      rw [e2] at q'
      exact q'.elim
    | some bs =>
      rw [e2] at q'
      subst e
      exact ⟨a, bs, rfl, by rw [← bls_rp e2 l2]; exact SqL.of l1.1, q' _ ad H Fr.refl k (rp_bl _)⟩
  | _ => exact q.elim
theorem cb_any : CbS K (rAny K) (f1 fAny) := cb1 fun hid M ad H d v Q E k r q => by
  cases d with
  | lst ds =>
    simp only [Rp] at r
    obtain ⟨a, vs, e, l1, l2⟩ := r
    have q' : (pV K hid Q E).P M ad H (match bls ds with
      | some bs => .ok (.bl (bs.any id)) M
      | none => .bad) := q
    cases e2 : bls ds with
    | none =>
      rw [e2] at q'
      exact q'.elim
    | some bs =>
      rw [e2] at q'
      subst e
      exact ⟨a, bs, rfl, by rw [← bls_rp e2 l2]; exact SqL.of l1.1, q' _ ad H Fr.refl k (rp_bl _)⟩
  | _ => exact q.elim

def tyD : D → Option String
  | .non => some "NoneType"
  | .bl _ => some "bool"
  | .int _ => some "int"
  | .str _ => some "str"
  | .lst _ => some "list"
  | .tup _ => some "tuple"
  | .dct _ _ => some "dict"
  | _ => none
theorem tyD_ok {hid : Addr → Prop} {M : Mem} {ad : List Addr} {H : Hp} {d : D} {v : V} {n : String} (h : tyD d = some n) (r : Rp K (wd hid M ad H) d v) : TyX K H v (.type n) := by
  cases d with
  | non => cases h; have e : v = .non := by simpa only [Rp] using r
           subst e; exact .base .non
  | bl b => cases h; have e : v = .bl b := by simpa only [Rp] using r
            subst e; exact .base (.bl b)
  | int b => cases h; have e : v = .int b := by simpa only [Rp] using r
             subst e; exact .base (.int b)
  | str b => cases h; have e : v = .str b := by simpa only [Rp] using r
             subst e; exact .base (.str b)
  | lst ds => cases h; simp only [Rp] at r; obtain ⟨a, vs, e, l1, _⟩ := r; subst e; exact .base (.lst l1.1)
  | tup ds =>
    cases h
    simp only [Rp] at r
    obtain ⟨a, vs, e, l1, _⟩ := r
    subst e
    rcases l1 with ⟨(l1 | ⟨o, l1⟩), _⟩ | ⟨o, its, m, l1, l2, _⟩
    · exact .base (.tup l1)
    · exact .fTuple l1
    · exact .kTuple l1 l2
  | dct ks ds => cases h; simp only [Rp] at r; obtain ⟨a, vs, e, l1, _⟩ := r; subst e; exact .base (.dK l1)
  | _ => cases h
def fIsi : List D → Mem → Res D := fun ds M => match ds with
  | [d, .ty n] => match (tyD d).bind fun t => kitB t n with
    | some b => .ok (.bl b) M
    | none => .bad
  | _ => .bad
theorem cb_isi : CbS K (rIsi K) fIsi := fun hid M ad H ds vs Q E k rx q => by
  have key : (∃ d n, ds = [d, .ty n]) ∨ (pV K hid Q E).P M ad H .bad := by
    match ds, q with
    | [], q => exact .inr q
    | [_], q => exact .inr q
    | [d, e], q => cases e <;> first | exact .inl ⟨_, _, rfl⟩ | exact .inr q
    | d :: e :: _ :: _, q => cases e <;> exact .inr q
  rcases key with ⟨d, n, e⟩ | z
  · subst e
    obtain ⟨v, r1, e1, g1, g2⟩ := rx.consI
    obtain ⟨w, r2, e2, g3, g4⟩ := g2.consI
    have e3 := g4.nilI
    have e4 : w = .ty n := by simpa only [Rp] using g3
    subst e1 e2 e3 e4
    have q' : (pV K hid Q E).P M ad H (match (tyD d).bind fun t => kitB t n with
      | some b => .ok (.bl b) M
      | none => .bad) := q
    cases e5 : tyD d with
    | none =>
      rw [e5] at q'
      exact q'.elim
    | some t =>
      rw [e5] at q'
      have q'' : (pV K hid Q E).P M ad H (match kitB t n with
        | some b => .ok (.bl b) M
        | none => .bad) := q'
      cases e6 : kitB t n with
      | none =>
        rw [e6] at q''
        exact q''.elim
      | some b =>
        rw [e6] at q''
        exact ⟨v, .ty n, .type t, .type n, b, rfl, .ty n, tyD_ok e5 g1, kit_ty e6, q'' _ ad H Fr.refl k (rp_bl _)⟩
  · exact z.elim
end
end DL

end
section
set_option maxHeartbeats 4000000
namespace DL
open PySem PySem.Spec PyProof.Rows L2
section
variable {K : PySem.W.Frag} {hid h1 h2 : Addr → Prop} {M M1 : Mem} {ad ad1 : List Addr} {H H1 : Hp} {σ : L2.St} {ρ : Rho} {W : WX}
def mChain (f f' : D → D → Mem → Res D) (ma mb mc : SE) : SE := fun ρ M => (ma ρ M).bind fun x M1 => (mb ρ M1).bind fun y M2 => (f x y M2).bind fun z M3 => match z with
  | .bl true => (mc ρ M3).bind fun w M4 => f' y w M4
  | .bl false => .ok (.bl false) M3
  | _ => .bad
theorem OpS.step {r : R2} {f : D → D → Mem → Res D} (o : OpS K r f) {β : Type} {dx dy : D} {x y : V} {E : XK} (k : Ok K hid M ad H) (rx : Rp K (wd hid M ad H) dx x) (ry : Rp K (wd hid M ad H) dy y) (p : Pk K hid E β) {g : D → Mem → Res β} (h : p.P M ad H ((f dx dy M).bind g)) {R : VK}
    (nx : ∀ d M1 x ad1 H1, Fr hid M ad H M1 ad1 H1 → Ok K hid M1 ad1 H1 → Rp K (wd hid M1 ad1 H1) d x → p.P M1 ad1 H1 (g d M1) → R x H1) : r x y H R := by
  refine o hid M ad H dx dy x y R E k rx ry ?_
  cases e : f dx dy M with
  | ok d M1 =>
    rw [e] at h
    exact fun v ad1 H1 f1 k1 rp => nx d M1 v ad1 H1 f1 k1 rp (p.fr f1 h)
  | exc c ns ds M1 =>
    rw [e] at h
    exact p.ex h
  | bad =>
    rw [e] at h
    exact p.no h
theorem snd_chain {r r' : R2} {f f' : D → D → Mem → Res D} {ta tb tc : TE} {ma mb mc : SE} (ho : OpS K r f) (ho' : OpS K r' f') (ha : Snd K W ta ma) (hb : Snd K W tb mb) (hc : Snd K W tc mc) : Snd K W (tChain r r' ta tb tc) (mChain f f' ma mb mc) := fun hid σ ρ M ad H Q k rr h => by
  refine ha.step k rr (pV K hid Q (wx W σ)) h fun dx M1 x ad1 H1 f1 k1 rx r1 h1 => ?_
  refine hb.step k1 r1 (pV K hid Q (wx W σ)) h1 fun dy M2 y ad2 H2 f2 k2 ry r2 h2 => ?_
  refine ho.step k2 (Rp.le f2.le dx rx) ry (pV K hid Q (wx W σ)) h2 fun dz M3 z ad3 H3 f3 k3 rz h3 => ?_
  cases dz with
  | bl b =>
    have ez : z = .bl b := by simpa only [Rp] using rz
    refine ⟨b, ez, ?_⟩
    cases b with
    | true =>
      refine iteT ?_
      refine hc.step k3 (r2.fr f3) (pV K hid Q (wx W σ)) h3 fun dw M4 w ad4 H4 f4 k4 rw4 r4 h4 => ?_
      exact ho' hid M4 ad4 H4 dy dw y w Q _ k4 (Rp.le (f3.trans f4).le dy ry) rw4 h4
    | false => exact iteF (h3 _ ad3 H3 Fr.refl k3 (rp_bl _))
  | _ => exact h3.elim

abbrev SO := Rho → Mem → Res (Option Int)
def pO (K : PySem.W.Frag) (hid : Addr → Prop) (Q : Option Int → Hp → Prop) (E : XK) : Pk K hid E (Option Int) where
  P M ad H r := match r with
    | .ok o M' => ∀ ad' H', Fr hid M ad H M' ad' H' → Ok K hid M' ad' H' → Q o H'
    | .exc c ns ds M' => PostX K hid M ad H E c ns ds M'
    | .bad => False
  fr {M ad H M1 ad1 H1 r} f h := match r, h with
    | .ok d M', h => fun ad' H' g k => h ad' H' (f.trans g) k
    | .exc _ _ _ _, h => PostX.fr f h
    | .bad, h => h
  ex h := h
  no h := h
def SndO (K : PySem.W.Frag) (W : WX) (to : TO) (m : SO) : Prop := ∀ (hid : Addr → Prop) (σ : L2.St) (ρ : Rho) (M : Mem) (ad : List Addr) (H : Hp) (Q : Option Int → Hp → Prop), Ok K hid M ad H → RpS K hid M ad H ρ σ →
  (pO K hid Q (wx W σ)).P M ad H (m ρ M) → to σ H Q
theorem SndO.step {β : Type} {to : TO} {m : SO} (s : SndO K W to m) (k : Ok K hid M ad H) (r : RpS K hid M ad H ρ σ) (p : Pk K hid (wx W σ) β) {f : Option Int → Mem → Res β} (h : p.P M ad H ((m ρ M).bind f)) {R : Option Int → Hp → Prop}
    (nx : ∀ b M1 ad1 H1, Fr hid M ad H M1 ad1 H1 → Ok K hid M1 ad1 H1 → RpS K hid M1 ad1 H1 ρ σ → p.P M1 ad1 H1 (f b M1) → R b H1) : to σ H R := by
  refine s hid σ ρ M ad H R k r ?_
  cases e : m ρ M with
  | ok d M1 =>
    rw [e] at h
    exact fun ad1 H1 f1 k1 => nx d M1 ad1 H1 f1 k1 (r.fr f1) (p.fr f1 h)
  | exc c ns ds M1 =>
    rw [e] at h
    exact p.ex h
  | bad =>
    rw [e] at h
    exact p.no h
def mNoPart : SO := fun _ M => .ok none M
theorem sndo_none : SndO K W tNoPart mNoPart := fun hid σ ρ M ad H Q k r h => h ad H Fr.refl k
def mPart (m : SE) : SO := fun ρ M => (m ρ M).bind fun d M1 => match d with
  | .int i => .ok (some i) M1
  | _ => .bad
theorem sndo_some {te : TE} {m : SE} (s : Snd K W te m) : SndO K W (tPart te) (mPart m) := fun hid σ ρ M ad H Q k r h => by
  refine s.step k r (pO K hid Q (wx W σ)) h fun d M1 x ad1 H1 f1 k1 rx r1 h1 => ?_
  cases d with
  | int i => exact ⟨i, by simpa only [Rp] using rx, h1 ad1 H1 Fr.refl k1⟩
  | _ => exact h1.elim
def cutL {α : Type} (xs : List α) (lo hi : Option Int) : List α := (xs.drop (HT.sIx xs.length 0 lo)).take (HT.sIx xs.length xs.length hi - HT.sIx xs.length 0 lo)
theorem cut_rp {W : Wd} {ds : List D} {vs : List V} (r : RpL K W ds vs) (lo hi : Option Int) : RpL K W (cutL ds lo hi) (cutV vs lo hi) := by
  unfold cutL cutV
  rw [r.len]
  exact (r.drop _).take _
theorem rpl_ints {W : Wd} : ∀ ns : List Int, RpL K W (ns.map D.int) (ns.map V.int)
  | [] => RpL.nil
  | n :: ns => RpL.cons (rp_int n) (rpl_ints ns)
theorem cutV_map (ns : List Int) (lo hi : Option Int) : cutV (ns.map V.int) lo hi = (cutL ns lo hi).map V.int := by
  unfold cutV cutL
  rw [List.length_map, List.map_take, List.map_drop]
def rSlD (K : PySem.W.Frag) : V → Option Int → Option Int → Hp → VK → Prop := fun x lo hi H Q => rSlS x lo hi H Q ∨ (rSlL K x lo hi H Q ∨ rSlA K x lo hi H Q)
theorem slr_all {X : Cx} : SlR X (rSlD X.K) := sl_str.or (sl_list.or sl_tupA)
def fSl (x : D) (lo hi : Option Int) (M : Mem) : Res D := match x with
  | .str z => if z.length ≤ sizeLine then .ok (.str (cutS z lo hi)) M else .bad
  | .lst ds => .ok (.lst (cutL ds lo hi)) M
  | .scr ns => .ok (.lst ((cutL ns lo hi).map D.int)) M
  | .tup ds => .ok (.tup (cutL ds lo hi)) M
  | _ => .bad
def mSl (me : SE) (ml mh : SO) : SE := fun ρ M => (me ρ M).bind fun x M1 => (ml ρ M1).bind fun l M2 => (mh ρ M2).bind fun u M3 => fSl x l u M3
theorem snd_sl {te : TE} {tl th : TO} {me : SE} {ml mh : SO} (he : Snd K W te me) (hl : SndO K W tl ml) (hh : SndO K W th mh) : Snd K W (tSl (rSlD K) te tl th) (mSl me ml mh) := fun hid σ ρ M ad H Q k r h => by
  refine he.step k r (pV K hid Q (wx W σ)) h fun d M1 x ad1 H1 f1 k1 rx r1 h1 => ?_
  refine hl.step k1 r1 (pV K hid Q (wx W σ)) h1 fun lo M2 ad2 H2 f2 k2 r2 h2 => ?_
  refine hh.step k2 r2 (pV K hid Q (wx W σ)) h2 fun hi M3 ad3 H3 f3 k3 r3 h3 => ?_
  have rx3 := Rp.le (f2.trans f3).le d rx
  cases d with
  | str z =>
    have e : x = .str z := by simpa only [Rp] using rx
    have h4 : (pV K hid Q (wx W σ)).P M3 ad3 H3 (if z.length ≤ sizeLine then .ok (.str (cutS z lo hi)) M3 else .bad) := h3
    by_cases c : z.length ≤ sizeLine
    · rw [if_pos c] at h4
      exact .inl ⟨z, e, c, h4 _ ad3 H3 Fr.refl k3 (rp_str _)⟩
    · rw [if_neg c] at h4
      exact h4.elim
  | lst ds =>
    simp only [Rp] at rx3
    obtain ⟨a, vs, e, l1, l2⟩ := rx3
    refine .inr (.inl ⟨a, vs, e, SqL.of l1.1, fun p hp => ?_⟩)
    obtain ⟨f4, k4, r4⟩ := new_lst k3 hp (cut_rp l2 lo hi)
    exact h3 _ _ _ f4 k4 r4
  | scr ns =>
    simp only [Rp] at rx3
    obtain ⟨a, e, l1⟩ := rx3
    refine .inr (.inl ⟨a, _, e, l1.imp (fun z => z.1) id, fun p hp => ?_⟩)
    rw [cutV_map]
    obtain ⟨f4, k4, r4⟩ := new_lst k3 hp (rpl_ints (cutL ns lo hi))
    exact h3 _ _ _ f4 k4 r4
  | tup ds =>
    have rx0 := rx3
    simp only [Rp] at rx3
    obtain ⟨a, vs, e, l1, l2⟩ := rx3
    refine .inr (.inr ⟨a, vs, e, l1.sq, fun z => ?_, fun _ p hp => ?_⟩)
    · rw [l2.len] at z
      have e2 : cutL ds lo hi = ds := by
        unfold cutL
        rw [z.1, z.2]
        simp
      refine h3 _ ad3 H3 Fr.refl k3 ?_
      rw [e2, ← e]
      exact rx0
    · obtain ⟨f4, k4, r4⟩ := new_tup k3 hp (cut_rp l2 lo hi)
      exact h3 _ _ _ f4 k4 r4
  | _ => exact h3.elim

def Mt1S (K : PySem.W.Frag) (r : V → List V → Hp → VK → Prop) (f : Str → D → Mem → Res D) : Prop := ∀ (hid : Addr → Prop) (M : Mem) (ad : List Addr) (H : Hp) (a : Str) (d : D) (v : V) (Q : VK) (E : XK), Ok K hid M ad H → Rp K (wd hid M ad H) d v →
  (pV K hid Q E).P M ad H (f a d M) → r (.str a) [v] H Q
def mM1 (f : Str → D → Mem → Res D) (mo me : SE) : SE := fun ρ M => (mo ρ M).bind fun x M1 => match x with
  | .str a => (me ρ M1).bind fun d M2 => f a d M2
  | _ => .bad
theorem snd_m1 {r : V → List V → Hp → VK → Prop} {f : Str → D → Mem → Res D} {to te : TE} {mo me : SE} (hr : Mt1S K r f) (ho : Snd K W to mo) (he : Snd K W te me) : Snd K W (tM1 r to te) (mM1 f mo me) := fun hid σ ρ M ad H Q k rr h => by
  refine ho.step k rr (pV K hid Q (wx W σ)) h fun d M1 x ad1 H1 f1 k1 rx r1 h1 => ?_
  cases d with
  | str a =>
    have e : x = .str a := by simpa only [Rp] using rx
    subst e
    refine ⟨⟨a, rfl⟩, ?_⟩
    refine he.step k1 r1 (pV K hid Q (wx W σ)) h1 fun d2 M2 y ad2 H2 f2 k2 ry r2 h2 => ?_
    exact hr hid M2 ad2 H2 a d2 y Q _ k2 ry h2
  | _ => exact h1.elim
def strsD : List D → Option (List Str)
  | [] => some []
  | .str b :: r => (strsD r).map (b :: ·)
  | _ :: _ => none
theorem strs_rp {W : Wd} : ∀ {ds : List D} {bs : List Str} {vs : List V}, strsD ds = some bs → RpL K W ds vs → vs = bs.map V.str
  | [], bs, vs, h, r => by
    have e := Option.some.inj h
    rw [← e, r.nilI]
    rfl
  | .str b :: ds, bs, vs, h, r => by
    obtain ⟨v, r', e, h1, h2⟩ := r.consI
    have h' : (strsD ds).map (b :: ·) = some bs := h
    cases q : strsD ds with
    | none =>
      rw [q] at h'
      cases h'
    | some cs =>
      rw [q] at h'
      have e2 : b :: cs = bs := Option.some.inj h'
      have e3 : v = .str b := by simpa only [Rp] using h1
      rw [e, e3, strs_rp q h2, ← e2]
      rfl
  | .non :: _, _, _, h, _ => by cases h
  | .int _ :: _, _, _, h, _ => by cases h
  | .bl _ :: _, _, _, h, _ => by cases h
  | .ty _ :: _, _, _, h, _ => by cases h
  | .cls _ :: _, _, _, h, _ => by cases h
  | .lst _ :: _, _, _, h, _ => by cases h
  | .tup _ :: _, _, _, h, _ => by cases h
  | .dct _ _ :: _, _, _, h, _ => by cases h
  | .ins _ _ _ :: _, _, _, h, _ => by cases h
  | .obj _ :: _, _, _, h, _ => by cases h
  | .scr _ :: _, _, _, h, _ => by cases h
  | .lam _ _ :: _, _, _, h, _ => by cases h
  | .exn _ _ _ :: _, _, _, h, _ => by cases h
def fJoin (a : Str) (d : D) (M : Mem) : Res D := match (seqOf d).bind strsD with
  | some ys => if (ys.map (·.length)).sum + ys.length * a.length ≤ 16777216 then .ok (.str (Txt.join a ys)) M else .bad
  | none => .bad
theorem mt1_join : Mt1S K (fun x xs H Q => ∃ a p, ∃ ys : List Str, x = .str a ∧ xs = [.ref p] ∧ (SqL K H p (ys.map V.str) ∨ SqT K H p (ys.map V.str)) ∧
    (ys.map (·.length)).sum + ys.length * a.length ≤ 16777216 ∧ Q (.str (Txt.join a ys)) H) fJoin := fun hid M ad H a d v Q E k r q => by
  unfold fJoin at q
  cases e1 : seqOf d with
  | none =>
    rw [e1] at q
    exact q.elim
  | some ds =>
    rw [e1] at q
    have q1 : (pV K hid Q E).P M ad H (match strsD ds with
      | some ys => if (ys.map (·.length)).sum + ys.length * a.length ≤ 16777216 then .ok (.str (Txt.join a ys)) M else .bad
      | none => .bad) := q
    cases e2 : strsD ds with
    | none =>
      rw [e2] at q1
      exact q1.elim
    | some ys =>
      rw [e2] at q1
      have q2 : (pV K hid Q E).P M ad H (if (ys.map (·.length)).sum + ys.length * a.length ≤ 16777216 then .ok (.str (Txt.join a ys)) M else .bad) := q1
      by_cases c : (ys.map (·.length)).sum + ys.length * a.length ≤ 16777216
      · rw [if_pos c] at q2
        obtain ⟨p, vs, e3, l1, l2⟩ := seqOf_rp e1 r
        have e4 := strs_rp e2 l2
        subst e3 e4
        exact ⟨a, p, ys, rfl, rfl, l1, c, q2 _ ad H Fr.refl k (rp_str _)⟩
      · rw [if_neg c] at q2
        exact q2.elim

theorem set_live {i : Nat} {o o' : MO} (e : M[i]? = some o) (ho : o ≠ .dead) (ho' : o' ≠ .dead) (j : Nat) : lvI (M.set i o') j ↔ lvI M j := by
  unfold lvI
  by_cases c : i = j
  · subst c
    have hl := (List.getElem?_eq_some_iff.mp e).1
    rw [List.getElem?_set_self hl, e]
    exact ⟨fun _ => ⟨o, rfl, ho⟩, fun _ => ⟨o', rfl, ho'⟩⟩
  · rw [List.getElem?_set_ne c]
theorem set_bad {i : Nat} {o o' : MO} (e : M[i]? = some o) (ho : o ≠ .dead) (ho' : o' ≠ .dead) (a : Addr) : badOf hid (M.set i o') ad a ↔ badOf hid M ad a := by
  unfold badOf
  simp only [set_live e ho ho']
theorem mem_set {i : Nat} {a : Addr} {o o' : MO} {u : HO} (k : Ok K hid M ad H) (e : M[i]? = some o) (ho : o ≠ .dead) (ea : ad[i]? = some a) (ho' : o' ≠ .dead) :
    Fr hid M ad H (M.set i o') ad (upd H a u) ∧ (MOk K (wd hid (M.set i o') ad (upd H a u)) a o' → Ok K hid (M.set i o') ad (upd H a u)) := by
  have hb : badOf hid M ad a := .inr ⟨i, ⟨o, e, ho⟩, ea⟩
  have le : Le (wd hid M ad H) (wd hid (M.set i o') ad (upd H a u)) := ⟨⟨[], by simp⟩, fun b x eb n => ⟨by
    show upd H a u b = some x
    rw [upd_ne (fun z : b = a => n (by rw [z]; exact hb))]
    exact eb, fun z => n ((set_bad e ho ho' b).mp z)⟩⟩
  have nha : ¬ hid a := k.nh i a ⟨o, e, ho⟩ ea
  refine ⟨⟨le, fun b z => upd_ne (fun q : b = a => nha (by rw [← q]; exact z)), fun b z => ?_⟩, fun mo => ⟨by rw [List.length_set]; exact k.len, fun j l b g1 g2 => k.inj j l b ((set_live e ho ho' j).mp g1) ((set_live e ho ho' l).mp g2), fun j b g1 => k.nh j b ((set_live e ho ho' j).mp g1), fun j x b g1 g2 => ?_, fun b z => ?_⟩⟩
  · by_cases q : b = a
    · subst q
      rw [upd_same]
      simp
    · rw [upd_ne q]
      exact z
  · by_cases c : i = j
    · subst c
      have hl := (List.getElem?_eq_some_iff.mp e).1
      rw [List.getElem?_set_self hl] at g1
      rw [ea] at g2
      cases g1
      cases g2
      exact mo
    · rw [List.getElem?_set_ne c] at g1
      by_cases hd : x = .dead
      · subst hd
        trivial
      · have ne : b ≠ a := fun q => by
          subst q
          exact c (k.inj i j b ⟨o, e, ho⟩ ⟨x, g1, hd⟩ ea g2)
        exact MOk.le le (upd_ne ne) (k.ob j x b g1 g2)
  · by_cases q : b = a
    · subst q
      rw [upd_same]
      simp
    · rw [upd_ne q]
      exact k.hh b z
/-- o[i] = e, o a list of the memory -/
def mSetIx (me mo mi : SE) : SS := fun ρ M => liftE (me ρ M) ρ fun d M1 => liftE (mo ρ M1) ρ fun x M2 => liftE (mi ρ M2) ρ fun y M3 => match x, y with
  | .obj j, .int i => match M3[j]? with
    | some (.lst ds) => match ixN ds.length i with
      | some n => .ok (.nx ρ) (M3.set j (.lst (ds.set n d)))
      | none => .bad
    | _ => .bad
  | _, _ => .bad
theorem snd_setIx {te to ti : TE} {me mo mi : SE} (he : Snd K W te me) (ho : Snd K W to mo) (hi : Snd K W ti mi) : SndS K W (tAsg te (gSub to ti rSetL)) (mSetIx me mo mi) := fun hid σ ρ M ad H E st q => by
  refine he.stepS st q fun d M1 v ad1 H1 f1 s1 rv q1 => ?_
  refine ho.stepS s1 q1 fun x M2 vx ad2 H2 f2 s2 rx q2 => ?_
  refine hi.stepS s2 q2 fun y M3 vy ad3 H3 f3 s3 ry q3 => ?_
  have rv3 := Rp.le (f2.trans f3).le d rv
  have rx3 := Rp.le f3.le x rx
  cases x with
  | obj j =>
    cases y with
    | int i =>
      have ey : vy = .int i := by simpa only [Rp] using ry
      simp only [Rp] at rx3
      obtain ⟨a, ex, ea⟩ := rx3
      have q4 : PostS K W hid (hS hid ρ σ) M3 ad3 H3 E (match M3[j]? with
        | some (.lst ds) => (match ixN ds.length i with
          | some n => (Res.ok (Fl.nx ρ) (M3.set j (.lst (ds.set n d))) : Res Fl)
          | none => .bad)
        | _ => .bad) := q3
      cases e : M3[j]? with
      | none =>
        rw [e] at q4
        exact q4.elim
      | some o =>
        rw [e] at q4
        cases o with
        | lst ds =>
          have q5 : PostS K W hid (hS hid ρ σ) M3 ad3 H3 E (match ixN ds.length i with
            | some n => (Res.ok (Fl.nx ρ) (M3.set j (.lst (ds.set n d))) : Res Fl)
            | none => .bad) := q4
          cases e2 : ixN ds.length i with
          | none =>
            rw [e2] at q5
            exact q5.elim
          | some n =>
            rw [e2] at q5
            obtain ⟨vs, g1, g2⟩ := s3.ok.ob j _ a e ea
            obtain ⟨f4, k4⟩ := mem_set (u := .lst (vs.set n v)) (o' := .lst (ds.set n d)) s3.ok e (by intro z; cases z) ea (by intro z; cases z)
            have k5 := k4 ⟨vs.set n v, upd_same, RpL.set (Rp.le f4.le d rv3) n (RpL.le f4.le ds g2)⟩
            refine ⟨a, vs, i, n, ex, ey, g1, by rw [g2.len]; exact e2, ?_⟩
            exact q5 σ ad3 _ (FrG.of f4 fun _ z => .inl z) (s3.fr f4 k5)
        | _ => exact q4.elim
    | _ => exact q3.elim
  | _ => cases y <;> exact q3.elim
/-- o.pop(k), o a list of the memory -/
def fPopAt (x : D) (k : Int) (M : Mem) : Res D := match x with
  | .obj j => match M[j]? with
    | some (.lst ds) => if -(2 ^ 63) ≤ k ∧ k < 2 ^ 63 then (match seqIndex? k ds.length with
      | some n => (match ds[n]? with
        | some d => .ok d (M.set j (.lst (ds.eraseIdx n)))
        | none => .bad)
      | none => .bad) else .bad
    | _ => .bad
  | _ => .bad
def mPopAt (mo : SE) (k : Int) : SE := fun ρ M => (mo ρ M).bind fun x M1 => fPopAt x k M1
theorem rpl_erase {W : Wd} : ∀ {ds : List D} {vs : List V} (n : Nat), RpL K W ds vs → RpL K W (ds.eraseIdx n) (vs.eraseIdx n)
  | [], vs, n, r => by
    rw [r.nilI]
    cases n <;> exact RpL.nil
  | d :: ds, vs, 0, r => by
    obtain ⟨v, r', e, h1, h2⟩ := r.consI
    subst e
    exact h2
  | d :: ds, vs, n + 1, r => by
    obtain ⟨v, r', e, h1, h2⟩ := r.consI
    subst e
    exact RpL.cons h1 (rpl_erase n h2)
theorem snd_popAt {to : TE} {mo : SE} {k : Int} (ho : Snd K W to mo) : Snd K W (tBM K "list" rPopAt to (tCons (tC (.int k)) tNil)) (mPopAt mo k) := fun hid σ ρ M ad H Q kk rr h => by
  refine ho.step kk rr (pV K hid Q (wx W σ)) h fun x M1 vx ad1 H1 f1 k1 rx r1 h1 => ?_
  cases x with
  | obj j =>
    simp only [Rp] at rx
    obtain ⟨a, ex, ea⟩ := rx
    have q : (pV K hid Q (wx W σ)).P M1 ad1 H1 (match M1[j]? with
      | some (.lst ds) => (if -(2 ^ 63) ≤ k ∧ k < 2 ^ 63 then (match seqIndex? k ds.length with
        | some n => (match ds[n]? with
          | some d => Res.ok d (M1.set j (.lst (ds.eraseIdx n)))
          | none => .bad)
        | none => .bad) else .bad)
      | _ => .bad) := h1
    cases e : M1[j]? with
    | none =>
      rw [e] at q
      exact q.elim
    | some o =>
      rw [e] at q
      cases o with
      | lst ds =>
        have q2 : (pV K hid Q (wx W σ)).P M1 ad1 H1 (if -(2 ^ 63) ≤ k ∧ k < 2 ^ 63 then (match seqIndex? k ds.length with
          | some n => (match ds[n]? with
            | some d => Res.ok d (M1.set j (.lst (ds.eraseIdx n)))
            | none => .bad)
          | none => .bad) else .bad) := q
        by_cases c : -(2 ^ 63) ≤ k ∧ k < 2 ^ 63
        · rw [if_pos c] at q2
          cases e2 : seqIndex? k ds.length with
          | none =>
            rw [e2] at q2
            exact q2.elim
          | some n =>
            rw [e2] at q2
            have q3 : (pV K hid Q (wx W σ)).P M1 ad1 H1 (match ds[n]? with
              | some d => Res.ok d (M1.set j (.lst (ds.eraseIdx n)))
              | none => .bad) := q2
            cases e3 : ds[n]? with
            | none =>
              rw [e3] at q3
              exact q3.elim
            | some d =>
              rw [e3] at q3
              obtain ⟨vs, g1, g2⟩ := k1.ob j _ a e ea
              obtain ⟨v, g3, g4⟩ := g2.get e3
              obtain ⟨f4, k4⟩ := mem_set (u := .lst (vs.eraseIdx n)) (o' := .lst (ds.eraseIdx n)) k1 e (by intro z; cases z) ea (by intro z; cases z)
              have k5 := k4 ⟨vs.eraseIdx n, upd_same, rpl_erase n (RpL.le f4.le ds g2)⟩
              subst ex
              refine ⟨.inl ⟨rfl, vs, SqL.of g1⟩, a, vs, k, n, v, rfl, rfl, g1, c.1, c.2, by rw [g2.len]; exact e2, g3, ?_⟩
              exact q3 v ad1 _ f4 k5 (Rp.le f4.le d g4)
        · rw [if_neg c] at q2
          exact q2.elim
      | _ => exact q.elim
  | _ => exact h1.elim
/-- == and != of a list of the memory and data -/
def pyM (M : Mem) : D → Option PyData
  | .obj j => match M[j]? with
    | some (.lst ds) => (pyL ds).map .list
    | _ => none
  | d => py d
theorem pyM_dp (k : Ok K hid M ad H) {d : D} {p : PyData} {v : V} (h : pyM M d = some p) (r : Rp K (wd hid M ad H) d v) : Dp K H v p := by
  cases d with
  | obj j =>
    simp only [Rp] at r
    obtain ⟨a, ex, ea⟩ := r
    have h' : (match M[j]? with
      | some (.lst ds) => (pyL ds).map PyData.list
      | _ => none) = some p := h
    cases e : M[j]? with
    | none =>
      rw [e] at h'
      cases h'
    | some o =>
      rw [e] at h'
      cases o with
      | lst ds =>
        have h2 : (pyL ds).map PyData.list = some p := h'
        cases e2 : pyL ds with
        | none =>
          rw [e2] at h2
          cases h2
        | some ps =>
          rw [e2] at h2
          have e3 : PyData.list ps = p := Option.some.inj h2
          obtain ⟨vs, g1, g2⟩ := k.ob j _ a e ea
          subst ex e3
          exact .lst (SqL.of g1) (pyL_dp ds e2 g2)
      | _ => cases h'
  | _ => exact py_dp _ h r
def fEqM (neg : Bool) : D → D → Mem → Res D := fun x y M => match pyM M x, pyM M y with
  | some p, some q => if (SeqAt.shaped p && SeqAt.shaped q) = true then .ok (.bl (if neg then !PyData.eqv p q else PyData.eqv p q)) M else .bad
  | _, _ => .bad
theorem ops_neM : OpS K (rNeA K) (fEqM true) := fun hid M ad H dx dy x y Q E k rx ry q => by
  unfold fEqM at q
  cases e1 : pyM M dx with
  | none =>
    rw [e1] at q
    exact q.elim
  | some u =>
    cases e2 : pyM M dy with
    | none =>
      rw [e1, e2] at q
      exact q.elim
    | some w =>
      rw [e1, e2] at q
      have q' : (pV K hid Q E).P M ad H (if (SeqAt.shaped u && SeqAt.shaped w) = true then .ok (.bl (!PyData.eqv u w)) M else .bad) := q
      by_cases c : (SeqAt.shaped u && SeqAt.shaped w) = true
      · rw [if_pos c] at q'
        obtain ⟨c1, c2⟩ := Bool.and_eq_true_iff.mp c
        exact .inr ⟨u, w, pyM_dp k e1 rx, pyM_dp k e2 ry, c1, c2, q' _ ad H Fr.refl k (rp_bl _)⟩
      · rw [if_neg c] at q'
        exact q'.elim
end
end DL

end
section
set_option maxHeartbeats 4000000
namespace DL
open PySem PySem.Spec PyProof.Rows L2
/-- what the head says of the top -/
structure Top (fa : List He.Fa) (fn : List He.DefD) (K : PySem.W.Frag) (mg : Str → Option Value) : Prop where
  ex : ∃ h : Heap, K.In h ∧ h.Ns mainGlobals mg
  says : He.SaysD fa fn K
section
variable {fa : List He.Fa} {fn : List He.DefD} {K : PySem.W.Frag} {mg : Str → Option Value}
theorem Top.glo (T : Top fa fn K mg) (i : Nat) {x : Str} (h : fa[i]? = some (.glo x) := by rfl) : mg x = some (.ref (He.ga K x)) := by
  obtain ⟨hp, X, G⟩ := T.ex
  exact He.glo_ok X G (T.says.fact i h)
theorem Top.free (T : Top fa fn K mg) (i : Nat) {x : Str} (h : fa[i]? = some (.free x) := by rfl) : mg x = none := by
  obtain ⟨hp, X, G⟩ := T.ex
  exact He.free_ok X G (T.says.fact i h)
theorem Top.int (T : Top fa fn K mg) (i : Nat) {x : Str} {n : Int} (h : fa[i]? = some (.int x n) := by rfl) : ∃ t, mg x = some (.int n t) := by
  obtain ⟨hp, X, G⟩ := T.ex
  exact He.int_ok X G (T.says.fact i h)
theorem Top.str (T : Top fa fn K mg) (i : Nat) {x z : Str} (h : fa[i]? = some (.str x z) := by rfl) : ∃ t, mg x = some (.str z t) := by
  obtain ⟨hp, X, G⟩ := T.ex
  exact He.str_ok X G (T.says.fact i h)
theorem Top.def_ (T : Top fa fn K mg) (i : Nat) {d : He.DefD} (h : fn[i]? = some d := by rfl) : ∃ fd, FunD K d.name d.qual d.params d.body d.scope (d.dvs K) (d.kws K) (He.fAd K d.at_) fd := T.says.def_ i h
end
/-- a def of the top keeps its promise, at the level k -/
structure Good (P : Program) (w : World) (K : PySem.W.Frag) (mg : Str → Option Value) (base : Heap) (k : Nat) (x : Str) (ps : List Str) (fd : FuncData) (g : GF) : Prop where
  ok : FnOk P w K mg base (L2.CX P w) k (He.ga K x) fd ps (spD K ps.length g)
  mgx : mg x = some (.ref (He.ga K x))
  kp : PySem.W.keepIn K (.ref (He.ga K x)) = true
section
variable {P : Program} {w : World} {K : PySem.W.Frag} {mg : Str → Option Value} {base : Heap}
theorem fnok_bad {k : Nat} {f : Addr} {fd : FuncData} {ps : List Str} : FnOk P w K mg base (L2.CX P w) k f fd ps (spD K ps.length fun _ _ => .bad) :=
  ⟨fun vs H Q E h => spD_len h, fun A outer s H args us vs Q E hr he hb hv hs => by
    obtain ⟨_, _, _, _, _, _, _, q⟩ := hs
    exact q.elim⟩
end
section
variable {X : Cx} {CX : CXT} {k n : Nat} {f : Addr} {fd : FuncData} {ps ks : List Str} {sp : Sp} {E : L2.St → XK} {x : Str} {p pos : Pos} {e : Expr} {es : List Expr} {kws : List Keyword} {t tk : TA} {g : List Value → List Value → List Value} {gV : List V → List V → List V}
def tCallNS (n m : Nat) (sp : Sp) (gV : List V → List V → List V) (E : L2.St → XK) (t tk : TA) : TE := fun σ H Q => t σ H fun vs H1 => tk σ H1 fun zs H2 => vs.length = n ∧ zs.length = m ∧ sp (gV vs zs) H2 Q (E σ)
theorem run_fnNS {pins : List (Addr × Obj)} {σ : L2.St} {H : Hp} {s : Shared} {Q : VK} {us ws : List Value} {vs zs : List V} (F : FnOk X.prog X.w X.K X.mg X.base CX k f fd ps sp) (hr : Room k X.A) (hb : KBn X.K fd ps n ks g gV) (hx : PassesAt CX X σ (E σ))
    (I : Inv X pins σ H s) (r : Vals vs us) (rz : Vals zs ws) (l1 : vs.length = n) (l2 : zs.length = ks.length) (h : sp (gV vs zs) H Q (E σ)) : wpAny (model X.prog X.w) X.A (call (.ref f) us (ks.zip ws)) (EP X pins σ Q) X.xe s := by
  have r2 := hb.rel r rz
  refine wpAny_call (codeAny_mono (F.run X.A X.stack s H ⟨us, ks.zip ws⟩ (g us ws) (gV vs zs) Q (E σ) hr I.env0 (hb.to s us ws I.kIn (r.length.symm.trans l1) (rz.length.symm.trans l2)) r2 h) fun r s' hq => ?_)
  cases r with
  | error e => exact hx pins H s e s' I hq
  | ok fl =>
    cases fl with
    | ret u => exact I.after hq
    | next => exact False.elim hq
    | brk => exact False.elim hq
    | cont => exact False.elim hq
theorem pe_callNS (F : FnOk X.prog X.w X.K X.mg X.base CX k f fd ps sp) (hr : Room k X.A) (hg : Gl X x) (hm : X.mg x = some (.ref f)) (hk : PySem.W.keepIn X.K (.ref f) = true) (hb : KBn X.K fd ps n ks g gV) (hx : ∀ σ, PassesAt CX X σ (E σ))
    (ha : PA X (e :: es) t) (hkw : PK X kws tk) (hall : (backToKw pos (keywordEach kws X.env)).all (·.1.isSome) = true := by rfl) (hks : (backToKw pos (keywordEach kws X.env)).filterMap (·.1) = ks := by rfl)
    (hdb : (x == ("__debug__" : Str)) = false := by decide) (he : starEach (e :: es) X.env = (false, eval e X.env) :: starEach es X.env := by rfl)
    (hpl : ((backTo pos (starEach (e :: es) X.env)).any (·.1) || (backToKw pos (keywordEach kws X.env)).any (·.1.isNone)) = false := by rfl) :
    PE X (.Call (.Name x p) (e :: es) kws pos) (tCallNS n ks.length sp gV E t tk) := by
  refine ⟨fun pins s σ H Q I h => ?_⟩
  refine wpAny_Call_Name_kw (ld_glob I hg hm ?_ hdb)
  refine PySem.W.callWith_KW (h₀ := X.base) I.ok.mod.kin hk hall (thn (ha.run pos pins s σ H _ I h) fun us s1 ⟨vs, H1, I1, r, q⟩ => ?_) hpl he
  refine thn (hkw.run pos pins s1 σ H1 _ I1 q) fun ws s2 ⟨zs, H2, I2, rz, l1, l2, q2⟩ => ⟨I2.kIn, ?_⟩
  rw [hks]
  exact run_fnNS F hr hb (hx σ) I2 r rz l1 l2 q2
theorem pe_callNS0 (F : FnOk X.prog X.w X.K X.mg X.base CX k f fd ps sp) (hr : Room k X.A) (hg : Gl X x) (hm : X.mg x = some (.ref f)) (hk : PySem.W.keepIn X.K (.ref f) = true) (hb : KBn X.K fd ps 0 ks g gV) (hx : ∀ σ, PassesAt CX X σ (E σ))
    (hkw : PK X kws tk) (hall : (backToKw pos (keywordEach kws X.env)).all (·.1.isSome) = true := by rfl) (hks : (backToKw pos (keywordEach kws X.env)).filterMap (·.1) = ks := by rfl)
    (hdb : (x == ("__debug__" : Str)) = false := by decide)
    (hpl : ((backTo pos (starEach [] X.env)).any (·.1) || (backToKw pos (keywordEach kws X.env)).any (·.1.isNone)) = false := by rfl) :
    PE X (.Call (.Name x p) [] kws pos) (tCallNS 0 ks.length sp gV E tNil tk) := by
  refine ⟨fun pins s σ H Q I h => ?_⟩
  refine wpAny_Call_Name_kw (ld_glob I hg hm ?_ hdb)
  refine PySem.W.callWith_KW0 (h₀ := X.base) I.ok.mod.kin hk hall ?_ hpl
  refine thn (hkw.run pos pins s σ H _ I h) fun ws s2 ⟨zs, H2, I2, rz, l1, l2, q2⟩ => ⟨I2.kIn, ?_⟩
  rw [hks]
  exact run_fnNS (us := []) (vs := []) F hr hb (hx σ) I2 .nil rz rfl l2 q2
end
/-- no default is taken: the positional ones, then the keywords' in an order of their own -/
theorem kbn_plain {K : PySem.W.Frag} {x qual : Str} {params : Arguments} {body : List Stmt} {scope : Scope} {f : Addr} {fd : FuncData} {ps : List Str} (F : FunD K x qual params body scope [] [] f fd) (n : Nat) (ks : List Str) (g : {α : Type} → List α → List α → List α)
    (hrel : ∀ {vs zs : List V} {us ws : List Value}, Vals vs us → Vals zs ws → Vals (g vs zs) (g us ws))
    (h : ∀ (kV doc pm : Value) (an : Option Addr) (cdv ct : Value) (us ws : List Value), us.length = n → ws.length = ks.length → bindArgs (PySem.W.fnOf x qual params body scope .none kV doc pm an cdv ct) ⟨us, ks.zip ws⟩ = pure (ps.zip (g us ws))) :
    KBn K fd ps n ks (fun us ws => g us ws) (fun vs zs => g vs zs) := by
  obtain ⟨oc, od, dV, kV, doc, pm, an, cdv, ct, osl, rfl, lk, hcd, hD, hK⟩ := F.ex
  rcases hD with ⟨_, rfl⟩ | ⟨e, _⟩
  · exact ⟨fun s us ws X l1 l2 => .of_eq (h kV doc pm an cdv ct us ws l1 l2), fun r1 r2 => hrel r1 r2⟩
  · exact absurd rfl e
section
variable {K : PySem.W.Frag} {W : WX}
def mCallK (n a b : Nat) (g : GF) (pm : List D → List D → List D) (ma mk : SA) : SE := fun ρ M => (ma ρ M).bind fun ds M1 => (mk ρ M1).bind fun es M2 => if ds.length = a ∧ es.length = b ∧ (pm ds es).length = n then g (pm ds es) M2 else .bad
theorem snd_callK {n a b : Nat} {g : GF} {pm : List D → List D → List D} {gV : List V → List V → List V} {ta tk : TA} {ma mk : SA} (hp : ∀ (W : Wd) (ds es : List D) (vs zs : List V), RpL K W ds vs → RpL K W es zs → RpL K W (pm ds es) (gV vs zs)) (ha : SndA K W ta ma) (hk : SndA K W tk mk) :
    Snd K W (tCallNS a b (spD K n g) gV (WE W) ta tk) (mCallK n a b g pm ma mk) := fun hid σ ρ M ad H Q k r h => by
  refine ha.step k r (pV K hid Q (wx W σ)) h fun ds M1 xs ad1 H1 f1 k1 rx r1 h1 => ?_
  refine hk.step k1 r1 (pV K hid Q (wx W σ)) h1 fun es M2 zs ad2 H2 f2 k2 rz r2 h2 => ?_
  have rx2 := RpL.le f2.le ds rx
  by_cases c : ds.length = a ∧ es.length = b ∧ (pm ds es).length = n
  · rw [if_pos c] at h2
    exact ⟨by rw [rx2.len]; exact c.1, by rw [rz.len]; exact c.2.1, hid, pm ds es, M2, ad2, c.2.2, k2, hp _ ds es xs zs rx2 rz, h2⟩
  · rw [if_neg c] at h2
    exact h2.elim
end
theorem ok_none {K : PySem.W.Frag} {H : Hp} : Ok K (fun _ => False) [] [] H :=
  ⟨rfl, fun i j a ⟨o, z, _⟩ => by simp at z, fun i a ⟨o, z, _⟩ => by simp at z, fun i o a z => by simp at z, fun a z => z.elim⟩
theorem law_sp {K : PySem.W.Frag} {g : GF} {H : Hp} {a : Addr} {ns : List Int} (hS : SqL K H a (ns.map V.int)) (hg : ∃ M', g [.scr ns] [] = .ok (.bl true) M') : spD K 1 g [.ref a] H (fun v _ => v = .bl true) fun _ _ _ => False := by
  obtain ⟨M', e⟩ := hg
  refine ⟨fun _ => False, [.scr ns], [], [], rfl, ok_none, RpL.cons ?_ RpL.nil, ?_⟩
  · simp only [Rp]
    refine ⟨a, rfl, hS.imp (fun z => ⟨z, ?_⟩) id⟩
    rintro (q | ⟨i, ⟨o, z, _⟩, _⟩)
    · exact q
    · simp at z
  · rw [e]
    exact fun v ad' H' _ _ r => by simpa only [Rp] using r
end DL

end
section
set_option maxHeartbeats 4000000
namespace DL
open PySem PySem.Spec PyProof.Rows L2
section
variable {K : PySem.W.Frag} {hid h1 h2 : Addr → Prop} {M M1 : Mem} {ad ad1 : List Addr} {H H1 : Hp} {σ : L2.St} {ρ : Rho} {W : WX}
theorem ops_mulL : OpS K rRep fMulL := fun hid M ad H dx dy x y Q E k rx ry q => by
  cases dx with
  | lst i =>
    cases dy with
    | int n =>
      have q' : (pV K hid Q E).P M ad H (if 0 ≤ n ∧ n < 2 ^ 63 ∧ i.length * n.toNat ≤ sizeLine then .ok (.lst (List.replicate n.toNat i).flatten) M else .bad) := q
      by_cases c : 0 ≤ n ∧ n < 2 ^ 63 ∧ i.length * n.toNat ≤ sizeLine
      · rw [if_pos c] at q'
        simp only [Rp] at rx
        obtain ⟨a, vs, e1, h1, h2⟩ := rx
        have e2 : y = .int n := by simpa only [Rp] using ry
        refine ⟨a, n, vs, e1, e2, h1.1, by omega, c.2.1, by rw [h2.len]; exact c.2.2, fun p hp => ?_⟩
        have r2 : ∀ m : Nat, RpL K (wd hid M ad H) (List.replicate m i).flatten (List.replicate m vs).flatten := fun m => by
          induction m with
          | zero => exact RpL.nil
          | succ m ih =>
            rw [List.replicate_succ, List.replicate_succ, List.flatten_cons, List.flatten_cons]
            exact h2.append ih
        obtain ⟨f, k2, r3⟩ := new_lst k hp (r2 n.toNat)
        exact q' _ _ _ f k2 r3
      · rw [if_neg c] at q'
        exact q'.elim
    | _ => exact q.elim
  | _ => exact q.elim
def rMulA : R2 := fun x y H Q => rI CMul (fun i j => .int (i * j)) x y H Q ∨ rRep x y H Q
theorem ops_mul : OpS K rMulA fMul := ops_mulI.or ops_mulL
theorem opr_mul {X : Cx} : OpR X (binaryOp .Mult) rMulA := op_mul.or op_rep
theorem ops_eqM : OpS K (rEqD K) (fEqM false) := fun hid M ad H dx dy x y Q E k rx ry q => by
  unfold fEqM at q
  cases e1 : pyM M dx with
  | none =>
    rw [e1] at q
    exact q.elim
  | some u =>
    cases e2 : pyM M dy with
    | none =>
      rw [e1, e2] at q
      exact q.elim
    | some w =>
      rw [e1, e2] at q
      have q' : (pV K hid Q E).P M ad H (if (SeqAt.shaped u && SeqAt.shaped w) = true then .ok (.bl (PyData.eqv u w)) M else .bad) := q
      by_cases c : (SeqAt.shaped u && SeqAt.shaped w) = true
      · rw [if_pos c] at q'
        obtain ⟨c1, c2⟩ := Bool.and_eq_true_iff.mp c
        exact ⟨u, w, pyM_dp k e1 rx, pyM_dp k e2 ry, c1, c2, q' _ ad H Fr.refl k (rp_bl _)⟩
      · rw [if_neg c] at q'
        exact q'.elim
theorem ops_neM1 : OpS K (rNeD K) (fEqM true) := fun hid M ad H dx dy x y Q E k rx ry q => by
  unfold fEqM at q
  cases e1 : pyM M dx with
  | none =>
    rw [e1] at q
    exact q.elim
  | some u =>
    cases e2 : pyM M dy with
    | none =>
      rw [e1, e2] at q
      exact q.elim
    | some w =>
      rw [e1, e2] at q
      have q' : (pV K hid Q E).P M ad H (if (SeqAt.shaped u && SeqAt.shaped w) = true then .ok (.bl (!PyData.eqv u w)) M else .bad) := q
      by_cases c : (SeqAt.shaped u && SeqAt.shaped w) = true
      · rw [if_pos c] at q'
        obtain ⟨c1, c2⟩ := Bool.and_eq_true_iff.mp c
        exact ⟨u, w, pyM_dp k e1 rx, pyM_dp k e2 ry, c1, c2, q' _ ad H Fr.refl k (rp_bl _)⟩
      · rw [if_neg c] at q'
        exact q'.elim
def fEqA : D → D → Mem → Res D := fun x y M => (fEqS false x y M).els (fEqM false x y M)
def fNeA : D → D → Mem → Res D := fun x y M => (fEqS true x y M).els (fEqM true x y M)
theorem ops_eqA : OpS K (rEqA K) fEqA := ops_eqS.or ops_eqM
theorem ops_neA : OpS K (rNeA K) fNeA := ops_neS.or ops_neM1
theorem snd_testR {te : TE} {m : SE} (s : Snd K W te m) : SndT K W (tTest te) (mTest m) := snd_test s
/-- a comprehension's tests -/
def mYes : ST := fun _ M => .ok true M
theorem snd_yes : SndT K W tYes mYes := fun hid σ ρ M ad H Q k r h => h ad H Fr.refl k

def iAny (K : PySem.W.Frag) (te : TE) : TI := fun σ H R => iList K te σ H R ∨ (iTup K te σ H R ∨ iStr te σ H R)
theorem pi_any {X : Cx} {tg l : Expr} {tl : TE} (h : PE X l tl) : PI X tg l (iAny X.K tl) :=
  ⟨fun pins s σ H R I q => q.elim ((pi_list h).run pins s σ H R I) fun q => q.elim ((pi_tup h).run pins s σ H R I) ((pi_str h).run pins s σ H R I)⟩
def itemsOf (d : D) (M : Mem) : Res (List D) := match d with
  | .lst ds => .ok ds M
  | .tup ds => .ok ds M
  | .str x => .ok (signsD x) M
  | _ => .bad
def mIAny (m : SE) : SI := fun ρ M => (m ρ M).bind fun d M1 => itemsOf d M1
theorem sndi_any {te : TE} {m : SE} (s : Snd K W te m) : SndI K W (iAny K te) (mIAny m) := fun hid σ ρ M ad H R k r h => by
  have h' : (pI K hid R (wx W σ)).P M ad H ((m ρ M).bind fun d M1 => itemsOf d M1) := h
  cases e : m ρ M with
  | ok d M1 =>
    rw [e] at h'
    cases d with
    | lst ds => exact .inl (sndi_list s hid σ ρ M ad H R k r (by unfold mIList; rw [e]; exact h'))
    | tup ds => exact .inr (.inl (sndi_tup s hid σ ρ M ad H R k r (by unfold mITup; rw [e]; exact h')))
    | str z => exact .inr (.inr (sndi_str s hid σ ρ M ad H R k r (by unfold mIStr; rw [e]; exact h')))
    | _ => exact h'.elim
  | exc c ns ds M1 =>
    rw [e] at h'
    exact .inl (sndi_list s hid σ ρ M ad H R k r (by unfold mIList; rw [e]; exact h'))
  | bad =>
    rw [e] at h'
    exact h'.elim
end
section
variable {X : Cx} {K : PySem.W.Frag}
theorem slrK (h : X.K = K) : SlR X (rSlD K) := by subst h; exact slr_all
theorem ixK (h : X.K = K) : IxR X (rIx K) := by subst h; exact ix_seq
theorem addK (h : X.K = K) : OpR X (binaryOp .Add) (rAddA K) := by subst h; exact opr_add
theorem eqK (h : X.K = K) (hu : X.A.units + 64 < cLine) : OpR X (compareOp .Eq) (rEqA K) := by subst h; exact opr_eq hu
theorem neK (h : X.K = K) (hu : X.A.units + 64 < cLine) : OpR X (compareOp .NotEq) (rNeA K) := by subst h; exact opr_ne hu
theorem inK (h : X.K = K) : OpR X (compareOp .In) (rInA K) := by subst h; exact opr_in
theorem notInK (h : X.K = K) : OpR X (compareOp .NotIn) (rNotInA K) := by subst h; exact opr_notIn
theorem allK (h : X.K = K) (hc : X.calm = true) : CallR X (.builtin "all") (rAll K) := by subst h; exact cr_all hc
theorem anyK (h : X.K = K) (hc : X.calm = true) : CallR X (.builtin "any") (rAny K) := by subst h; exact cr_any hc
theorem lenK (h : X.K = K) : CallR X (.builtin "len") (fun xs H Q => ∃ x n, xs = [x] ∧ LenV K x H n ∧ Q (.int n) H) := by subst h; exact call_len
theorem isiK (h : X.K = K) : CallR X (.builtin "isinstance") (rIsi K) := by subst h; exact call_isi
theorem pi_anyK (h : X.K = K) {tg l : Expr} {tl : TE} (hl : PE X l tl) : PI X tg l (iAny K tl) := by subst h; exact pi_any hl
theorem pi_zipK (h : X.K = K) {e e2 : Expr} {ta : TA} {p pos tpos : Pos} {elts : List Expr} {kk : Nat} (hg : Gl X "zip") (hm : X.mg "zip" = none) (ha : PA X [e, e2] ta)
    (hs : starEach [e, e2] X.env = (false, eval e X.env) :: starEach [e2] X.env := by rfl) (hs2 : (backTo pos (starEach [e2] X.env)).any (·.1) = false := by rfl) : PI X (.Tuple elts kk tpos) (.Call (.Name "zip" p) [e, e2] [] pos) (RZ.iZipA K ta) := by
  subst h
  exact RZ.pi_zipA hg hm ha hs hs2
theorem pg_tupK (h : X.K = K) {es : List Expr} {k : Nat} {t : TGs} {n : Nat} {pos : Pos} (hc : X.calm = true) (hh : PGs X es t)
    (hn : (assignEach es X.env).length = n := by rfl) (hst : (assignEach es X.env).findIdx? (·.1) = none := by rfl) : PG X (.Tuple es k pos) (gTup K n t) := by
  subst h
  exact pg_tup hc hh hn hst
theorem pe_joinK (h : X.K = K) {o e : Expr} {to te : TE} {apos pos : Pos} (ho : PE X o to) (he : PE X e te) (hs : starEach [e] X.env = [(false, eval e X.env)] := by rfl) (hbase : attributeBase o "join" X.env (eval o X.env) = eval o X.env := by rfl) (hline : (apos.endLine == pos.line) = true := by rfl) :
    PE X (.Call (.Attribute o "join" apos) [e] [] pos) (tM1 (fun x xs H Q => ∃ a p, ∃ ys : List Str, x = .str a ∧ xs = [.ref p] ∧ (SqL K H p (ys.map V.str) ∨ SqT K H p (ys.map V.str)) ∧
      (ys.map (·.length)).sum + ys.length * a.length ≤ 16777216 ∧ Q (.str (Txt.join a ys)) H) to te) := by
  subst h
  exact pe_join ho he hs hbase hline
theorem pe_bmK (h : X.K = K) {o e : Expr} {es : List Expr} {to : TE} {t : TA} {name : Str} {apos cpos : Pos} {T id : String} {r : V → List V → Hp → VK → Prop} (pa : PlainAttrs T) (slot : Slot T name id) (hty : typeOf (.builtin id) = pure (.type "method_descriptor")) (hm : MtR X id r) (ho : PE X o to) (ha : PA X (e :: es) t)
    (hbase : attributeBase o name X.env (eval o X.env) = eval o X.env := by rfl)
    (hfew : ((backTo cpos (starEach (e :: es) X.env)).all (fun x => !x.1) && (backToKw cpos (keywordEach [] X.env)).all (fun x => x.1.isSome)
      && decide ((e :: es).length + ([] : List Keyword).length + (if ([] : List Keyword).isEmpty then 0 else 1) < 30)) = true := by rfl)
    (hline : (apos.endLine == cpos.line) = true := by rfl) (hs : starEach (e :: es) X.env = (false, eval e X.env) :: starEach es X.env := by rfl) (hplain : (backTo cpos (starEach es X.env)).any (·.1) = false := by rfl) :
    PE X (.Call (.Attribute o name apos) (e :: es) [] cpos) (tBM K T r to t) := by
  subst h
  exact pe_bm pa slot hty hm ho ha hbase hfew hline hs hplain
end
end DL

end
section
set_option maxHeartbeats 4000000
namespace DL
open PySem PySem.Spec PyProof.Rows L2
theorem walk_data {l : PySem.W.OpenLaw} {k : Nat} {q : Program} {loose : List Str} {XP : (Str → Option Value) → Heap → Prop} {YP : World → Heap → Prop} {d : DefRec} {x : Str} {g : GF}
    (hn : l.most = some 63) (hdf : d.params.defaults = []) (hr : Room k callerA) (law_true : ∀ ns : List Int, ns.length ≤ 63 → ∃ M', g [.scr ns] [] = .ok (.bl true) M')
    (F : ∀ (w : World) (mg : Str → Option Value) (fa : Addr) (h : Heap), YP w h → h.Ns mainGlobals mg → mg d.name = some (.ref fa) →
      ∃ (K : PySem.W.Frag) (fd : FuncData), K.In h ∧ (∀ (s : Shared) (u : Value), BindsTo s fd ⟨[u], []⟩ [(x, u)]) ∧
        ∀ base : Heap, FnOk l.prog w K mg base (L2.CX l.prog w) k fa fd [x] (spD K 1 g)) :
    PySem.W.WalkO q loose XP YP l.row.toRowW d [] (fun f vs => PySem.call f vs) := by
  refine Att.attach_call hn hdf fun w s₀ s₁ mg mb fa o pm cd doc a vs ns G Y ho hd hcd hmg hobj hints hlen hg => ?_
  obtain ⟨K, fd, KX, hb, hF⟩ := F w mg fa _ Y G.T.g hmg
  exact law_call KX G.T.g G.T.b G.T.builtins G.T.nolimit hg hobj hints (Nat.le_trans hlen (by decide)) hr (fun base _ _ => hF base) hb (fun H hO hS => law_sp hS (law_true ns hlen)) fun H e s' c => by
    obtain ⟨_, _, _, _, _, _, _, _, _, _, _, _, q⟩ := c
    exact q
end DL

end
section
set_option maxHeartbeats 4000000
namespace DL
open PySem PySem.Spec PyProof.Rows L2
theorem els_ok {α : Type} (a : α) (M : Mem) (u : Res α) : (Res.ok a M).els u = .ok a M := rfl
def varK (o : Option Sl) (M : Mem) : Res D := match o with | some (.val d) => .ok d M | _ => .bad
theorem mVar_go {i : Nat} {ρ : Rho} {M : Mem} : mVar i ρ M = varK (ρ[i]?) M := rfl
theorem varK_ok {d : D} {M : Mem} : varK (some (.val d)) M = .ok d M := rfl
theorem mC_go {d : D} {ρ : Rho} {M : Mem} : mC d ρ M = .ok d M := rfl
def opK2 (f : D → D → Mem → Res D) (x : D) (r : Res D) : Res D := r.bind fun y M2 => f x y M2
theorem opK2_ok {f : D → D → Mem → Res D} {x : D} {y : D} {M : Mem} : opK2 f x (.ok y M) = f x y M := rfl
theorem opK2_exc {f : D → D → Mem → Res D} {x : D} {c : Str} {ns : List Str} {ds : List D} {M : Mem} : opK2 f x (.exc c ns ds M) = .exc c ns ds M := rfl
def opK (f : D → D → Mem → Res D) (mb : SE) (ρ : Rho) (r : Res D) : Res D := r.bind fun x M1 => opK2 f x (mb ρ M1)
theorem opK_ok {f : D → D → Mem → Res D} {mb : SE} {ρ : Rho} {x : D} {M : Mem} : opK f mb ρ (.ok x M) = opK2 f x (mb ρ M) := rfl
theorem opK_exc {f : D → D → Mem → Res D} {mb : SE} {ρ : Rho} {c : Str} {ns : List Str} {ds : List D} {M : Mem} : opK f mb ρ (.exc c ns ds M) = .exc c ns ds M := rfl
theorem mOp_go {f : D → D → Mem → Res D} {ma mb : SE} {ρ : Rho} {M : Mem} : mOp f ma mb ρ M = opK f mb ρ (ma ρ M) := rfl
theorem mNil_go  {ρ : Rho} {M : Mem} : mNil ρ M = .ok [] M := rfl
def consK2 (d : D) (r : Res (List D)) : Res (List D) := r.bind fun ds M2 => .ok (d :: ds) M2
theorem consK2_ok {d : D} {ds : List D} {M : Mem} : consK2 d (.ok ds M) = .ok (d :: ds) M := rfl
theorem consK2_exc {d : D} {c : Str} {ns : List Str} {ds : List D} {M : Mem} : consK2 d (.exc c ns ds M) = .exc c ns ds M := rfl
def consK (r2 : SA) (ρ : Rho) (r : Res D) : Res (List D) := r.bind fun d M1 => consK2 d (r2 ρ M1)
theorem consK_ok {r2 : SA} {ρ : Rho} {d : D} {M : Mem} : consK r2 ρ (.ok d M) = consK2 d (r2 ρ M) := rfl
theorem consK_exc {r2 : SA} {ρ : Rho} {c : Str} {ns : List Str} {ds : List D} {M : Mem} : consK r2 ρ (.exc c ns ds M) = .exc c ns ds M := rfl
theorem mCons_go {m : SE} {r : SA} {ρ : Rho} {M : Mem} : mCons m r ρ M = consK r ρ (m ρ M) := rfl
def tupK  (r : Res (List D)) : Res D := r.bind fun ds M1 => if ds.length ≤ sizeLine then .ok (.tup ds) M1 else .bad
theorem tupK_ok  {ds : List D} {M : Mem} : tupK  (.ok ds M) = if ds.length ≤ sizeLine then .ok (.tup ds) M else .bad := rfl
theorem tupK_exc  {c : Str} {ns : List Str} {ds : List D} {M : Mem} : tupK  (.exc c ns ds M) = .exc c ns ds M := rfl
theorem mTup_go {m : SA} {ρ : Rho} {M : Mem} : mTup m ρ M = tupK (m ρ M) := rfl
def lstK  (r : Res (List D)) : Res D := r.bind fun ds M1 => if ds.length ≤ sizeLine then .ok (.lst ds) M1 else .bad
theorem lstK_ok  {ds : List D} {M : Mem} : lstK  (.ok ds M) = if ds.length ≤ sizeLine then .ok (.lst ds) M else .bad := rfl
theorem lstK_exc  {c : Str} {ns : List Str} {ds : List D} {M : Mem} : lstK  (.exc c ns ds M) = .exc c ns ds M := rfl
theorem mLst_go {m : SA} {ρ : Rho} {M : Mem} : mLst m ρ M = lstK (m ρ M) := rfl
def ownK  (r : Res D) : Res D := r.bind fun d M1 => match moOf d with | some o => .ok (.obj M1.length) (M1 ++ [o]) | none => .bad
theorem ownK_ok  {ds : List D} {M : Mem} : ownK  (.ok (.lst ds) M) = .ok (.obj M.length) (M ++ [.lst ds]) := rfl
theorem ownK_ok1  {ks : List Key} {vs : List D} {M : Mem} : ownK  (.ok (.dct ks vs) M) = .ok (.obj M.length) (M ++ [.dct ks vs]) := rfl
theorem ownK_ok2  {c : Str} {ns : List Str} {vs : List D} {M : Mem} : ownK  (.ok (.ins c ns vs) M) = .ok (.obj M.length) (M ++ [.ins c ns vs]) := rfl
theorem ownK_exc  {c : Str} {ns : List Str} {ds : List D} {M : Mem} : ownK  (.exc c ns ds M) = .exc c ns ds M := rfl
theorem mOwn_go {m : SE} {ρ : Rho} {M : Mem} : mOwn m ρ M = ownK (m ρ M) := rfl
def tsK  (r : Res D) : Res Bool := r.bind fun d M1 => match d with | .bl b => .ok b M1 | _ => .bad
theorem tsK_ok  {b : Bool} {M : Mem} : tsK  (.ok (.bl b) M) = .ok b M := rfl
theorem tsK_exc  {c : Str} {ns : List Str} {ds : List D} {M : Mem} : tsK  (.exc c ns ds M) = .exc c ns ds M := rfl
theorem mTest_go {m : SE} {ρ : Rho} {M : Mem} : mTest m ρ M = tsK (m ρ M) := rfl
def andK (n : ST) (ρ : Rho) (r : Res Bool) : Res Bool := r.bind fun b M1 => if b = true then n ρ M1 else .ok false M1
theorem andK_ok {n : ST} {ρ : Rho}  {M : Mem} : andK n ρ (.ok true M) = n ρ M := rfl
theorem andK_ok1 {n : ST} {ρ : Rho}  {M : Mem} : andK n ρ (.ok false M) = .ok false M := rfl
theorem andK_exc {n : ST} {ρ : Rho} {c : Str} {ns : List Str} {ds : List D} {M : Mem} : andK n ρ (.exc c ns ds M) = .exc c ns ds M := rfl
theorem mAnd_go {m n : ST} {ρ : Rho} {M : Mem} : mAnd m n ρ M = andK n ρ (m ρ M) := rfl
def orK (n : ST) (ρ : Rho) (r : Res Bool) : Res Bool := r.bind fun b M1 => if b = true then .ok true M1 else n ρ M1
theorem orK_ok {n : ST} {ρ : Rho}  {M : Mem} : orK n ρ (.ok true M) = .ok true M := rfl
theorem orK_ok1 {n : ST} {ρ : Rho}  {M : Mem} : orK n ρ (.ok false M) = n ρ M := rfl
theorem orK_exc {n : ST} {ρ : Rho} {c : Str} {ns : List Str} {ds : List D} {M : Mem} : orK n ρ (.exc c ns ds M) = .exc c ns ds M := rfl
theorem mOr_go {m n : ST} {ρ : Rho} {M : Mem} : mOr m n ρ M = orK n ρ (m ρ M) := rfl
def notK  (r : Res Bool) : Res Bool := r.bind fun b M1 => .ok (!b) M1
theorem notK_ok  {b : Bool} {M : Mem} : notK  (.ok b M) = .ok (!b) M := rfl
theorem notK_exc  {c : Str} {ns : List Str} {ds : List D} {M : Mem} : notK  (.exc c ns ds M) = .exc c ns ds M := rfl
theorem mNot_go {m : ST} {ρ : Rho} {M : Mem} : mNot m ρ M = notK (m ρ M) := rfl
def mbK  (r : Res Bool) : Res D := r.bind fun b M1 => .ok (.bl b) M1
theorem mbK_ok  {b : Bool} {M : Mem} : mbK  (.ok b M) = .ok (.bl b) M := rfl
theorem mbK_exc  {c : Str} {ns : List Str} {ds : List D} {M : Mem} : mbK  (.exc c ns ds M) = .exc c ns ds M := rfl
theorem mB_go {m : ST} {ρ : Rho} {M : Mem} : mB m ρ M = mbK (m ρ M) := rfl
def ifeK (a b : SE) (ρ : Rho) (r : Res Bool) : Res D := r.bind fun c M1 => if c = true then a ρ M1 else b ρ M1
theorem ifeK_ok {a b : SE} {ρ : Rho}  {M : Mem} : ifeK a b ρ (.ok true M) = a ρ M := rfl
theorem ifeK_ok1 {a b : SE} {ρ : Rho}  {M : Mem} : ifeK a b ρ (.ok false M) = b ρ M := rfl
theorem ifeK_exc {a b : SE} {ρ : Rho} {c : Str} {ns : List Str} {ds : List D} {M : Mem} : ifeK a b ρ (.exc c ns ds M) = .exc c ns ds M := rfl
theorem mIfE_go {t : ST} {a b : SE} {ρ : Rho} {M : Mem} : mIfE t a b ρ M = ifeK a b ρ (t ρ M) := rfl
theorem mYes_go  {ρ : Rho} {M : Mem} : mYes ρ M = .ok true M := rfl
theorem mNext_go  {ρ : Rho} {M : Mem} : mNext ρ M = .ok (.nx ρ) M := rfl
def seqK (n : SS) (r : Res Fl) : Res Fl := r.bind fun fl M1 => match fl with
  | .nx ρ1 => n ρ1 M1
  | .rt d => .ok (.rt d) M1
  | .bk ρ1 => .ok (.bk ρ1) M1
  | .ct ρ1 => .ok (.ct ρ1) M1
  | .ex ρ1 c ns ds => .ok (.ex ρ1 c ns ds) M1
theorem seqK_nx {n : SS} {ρ : Rho} {M : Mem} : seqK n (.ok (.nx ρ) M) = n ρ M := rfl
theorem seqK_rt {n : SS} {d : D} {M : Mem} : seqK n (.ok (.rt d) M) = .ok (.rt d) M := rfl
theorem seqK_bk {n : SS} {ρ : Rho} {M : Mem} : seqK n (.ok (.bk ρ) M) = .ok (.bk ρ) M := rfl
theorem seqK_ct {n : SS} {ρ : Rho} {M : Mem} : seqK n (.ok (.ct ρ) M) = .ok (.ct ρ) M := rfl
theorem seqK_ex {n : SS} {ρ : Rho} {c : Str} {ns : List Str} {ds : List D} {M : Mem} : seqK n (.ok (.ex ρ c ns ds) M) = .ok (.ex ρ c ns ds) M := rfl
theorem mSeq_go {m n : SS} {ρ : Rho} {M : Mem} : mSeq m n ρ M = seqK n (m ρ M) := rfl
def ifK (m n : SS) (ρ : Rho) (r : Res Bool) : Res Fl := liftE r ρ fun b M1 => if b = true then m ρ M1 else n ρ M1
theorem ifK_ok {m n : SS}  {ρ : Rho} {M : Mem} : ifK m n ρ (.ok true M) = m ρ M := rfl
theorem ifK_ok1 {m n : SS}  {ρ : Rho} {M : Mem} : ifK m n ρ (.ok false M) = n ρ M := rfl
theorem ifK_exc {m n : SS} {ρ : Rho} {c : Str} {ns : List Str} {ds : List D} {M : Mem} : ifK m n ρ (.exc c ns ds M) = .ok (.ex ρ c ns ds) M := rfl
theorem mIfS_go {t : ST} {m n : SS} {ρ : Rho} {M : Mem} : mIfS t m n ρ M = ifK m n ρ (t ρ M) := rfl
def retK  (ρ : Rho) (r : Res D) : Res Fl := liftE r ρ fun d M1 => .ok (.rt d) M1
theorem retK_ok  {d : D} {ρ : Rho} {M : Mem} : retK  ρ (.ok d M) = .ok (.rt d) M := rfl
theorem retK_exc  {ρ : Rho} {c : Str} {ns : List Str} {ds : List D} {M : Mem} : retK  ρ (.exc c ns ds M) = .ok (.ex ρ c ns ds) M := rfl
theorem mRet_go {m : SE} {ρ : Rho} {M : Mem} : mRet m ρ M = retK ρ (m ρ M) := rfl
theorem mRetN_go  {ρ : Rho} {M : Mem} : mRetN ρ M = .ok (.rt .non) M := rfl
def dropK  (ρ : Rho) (r : Res D) : Res Fl := liftE r ρ fun _ M1 => .ok (.nx ρ) M1
theorem dropK_ok  {d : D} {ρ : Rho} {M : Mem} : dropK  ρ (.ok d M) = .ok (.nx ρ) M := rfl
theorem dropK_exc  {ρ : Rho} {c : Str} {ns : List Str} {ds : List D} {M : Mem} : dropK  ρ (.exc c ns ds M) = .ok (.ex ρ c ns ds) M := rfl
theorem mDrop_go {m : SE} {ρ : Rho} {M : Mem} : mDrop m ρ M = dropK ρ (m ρ M) := rfl
theorem mBreak_go  {ρ : Rho} {M : Mem} : mBreak ρ M = .ok (.bk ρ) M := rfl
theorem mCont_go  {ρ : Rho} {M : Mem} : mCont ρ M = .ok (.ct ρ) M := rfl
def putK (o : Option Rho) (M : Mem) : Res Fl := match o with | some ρ1 => .ok (.nx ρ1) M | none => .bad
theorem putK_some {ρ : Rho} {M : Mem} : putK (some ρ) M = .ok (.nx ρ) M := rfl
def asgK (g : SG) (ρ : Rho) (r : Res D) : Res Fl := liftE r ρ fun d M1 => putK (g d ρ) M1
theorem asgK_ok {g : SG} {d : D} {ρ : Rho} {M : Mem} : asgK g ρ (.ok d M) = putK (g d ρ) M := rfl
theorem asgK_exc {g : SG} {ρ : Rho} {c : Str} {ns : List Str} {ds : List D} {M : Mem} : asgK g ρ (.exc c ns ds M) = .ok (.ex ρ c ns ds) M := rfl
theorem mAsg_go {m : SE} {g : SG} {ρ : Rho} {M : Mem} : mAsg m g ρ M = asgK g ρ (m ρ M) := rfl
theorem mgName_go {i : Nat} {d : D} {ρ : Rho} : mgName i d ρ = some (ρ.set i (.val d)) := rfl
theorem mgNil_go {ρ : Rho} : mgNil [] ρ = some ρ := rfl
def gsK (r : SGs) (ds : List D) (o : Option Rho) : Option Rho := o.bind fun ρ1 => r ds ρ1
theorem gsK_some {r : SGs} {ds : List D} {ρ : Rho} : gsK r ds (some ρ) = r ds ρ := rfl
theorem mgCons_go {m : SG} {r : SGs} {d : D} {ds : List D} {ρ : Rho} : mgCons m r (d :: ds) ρ = gsK r ds (m d ρ) := rfl
theorem mgTup_go {n : Nat} {m : SGs} {ds : List D} {ρ : Rho} (h : ds.length = n) : mgTup n m (.tup ds) ρ = m ds ρ := by
  unfold mgTup
  simp only [h, if_pos]
def parK (i j : Nat) (ρ : Rho) (r : Res (List D)) : Res Fl := liftE r ρ fun ds M1 => match ds with | [d, e] => .ok (.nx ((ρ.set i (.val d)).set j (.val e))) M1 | _ => .bad
theorem parK_ok {i j : Nat} {d e : D} {ρ : Rho} {M : Mem} : parK i j ρ (.ok [d, e] M) = .ok (.nx ((ρ.set i (.val d)).set j (.val e))) M := rfl
theorem parK_exc {i j : Nat} {ρ : Rho} {c : Str} {ns : List Str} {ds : List D} {M : Mem} : parK i j ρ (.exc c ns ds M) = .ok (.ex ρ c ns ds) M := rfl
theorem mPar_go {i j : Nat} {m : SA} {ρ : Rho} {M : Mem} : mPar i j m ρ M = parK i j ρ (m ρ M) := rfl
def setK3 (d x : D) (ρ : Rho) (r : Res D) : Res Fl := liftE r ρ fun y M3 => match x, y with
  | .obj j, .int i => match M3[j]? with
    | some (.lst ds) => match ixN ds.length i with
      | some n => .ok (.nx ρ) (M3.set j (.lst (ds.set n d)))
      | none => .bad
    | _ => .bad
  | _, _ => .bad
theorem setK3_exc {d x : D} {ρ : Rho} {c : Str} {ns : List Str} {ds : List D} {M : Mem} : setK3 d x ρ (.exc c ns ds M) = .ok (.ex ρ c ns ds) M := rfl
def set5 (d : D) (j : Nat) (ds : List D) (ρ : Rho) (M : Mem) (o : Option Nat) : Res Fl := match o with | some n => .ok (.nx ρ) (M.set j (.lst (ds.set n d))) | none => .bad
def set4 (d : D) (j : Nat) (i : Int) (ρ : Rho) (M : Mem) (o : Option MO) : Res Fl := match o with | some (.lst ds) => set5 d j ds ρ M (ixN ds.length i) | _ => .bad
theorem set5_ok {d : D} {j : Nat} {ds : List D} {ρ : Rho} {M : Mem} {n : Nat} : set5 d j ds ρ M (some n) = .ok (.nx ρ) (M.set j (.lst (ds.set n d))) := rfl
theorem set4_ok {d : D} {j : Nat} {i : Int} {ds : List D} {ρ : Rho} {M : Mem} : set4 d j i ρ M (some (.lst ds)) = set5 d j ds ρ M (ixN ds.length i) := rfl
theorem setK3_ok {d : D} {j : Nat} {i : Int} {ρ : Rho} {M : Mem} : setK3 d (.obj j) ρ (.ok (.int i) M) = set4 d j i ρ M (M[j]?) := rfl
def setK2 (d : D) (mi : SE) (ρ : Rho) (r : Res D) : Res Fl := liftE r ρ fun x M2 => setK3 d x ρ (mi ρ M2)
theorem setK2_ok {d : D} {mi : SE} {x : D} {ρ : Rho} {M : Mem} : setK2 d mi ρ (.ok x M) = setK3 d x ρ (mi ρ M) := rfl
theorem setK2_exc {d : D} {mi : SE} {ρ : Rho} {c : Str} {ns : List Str} {ds : List D} {M : Mem} : setK2 d mi ρ (.exc c ns ds M) = .ok (.ex ρ c ns ds) M := rfl
def setK (mo mi : SE) (ρ : Rho) (r : Res D) : Res Fl := liftE r ρ fun d M1 => setK2 d mi ρ (mo ρ M1)
theorem setK_ok {mo mi : SE} {d : D} {ρ : Rho} {M : Mem} : setK mo mi ρ (.ok d M) = setK2 d mi ρ (mo ρ M) := rfl
theorem setK_exc {mo mi : SE} {ρ : Rho} {c : Str} {ns : List Str} {ds : List D} {M : Mem} : setK mo mi ρ (.exc c ns ds M) = .ok (.ex ρ c ns ds) M := rfl
theorem mSetIx_go {me mo mi : SE} {ρ : Rho} {M : Mem} : mSetIx me mo mi ρ M = setK mo mi ρ (me ρ M) := rfl
def popK (k : Int) (r : Res D) : Res D := r.bind fun x M1 => fPopAt x k M1
theorem popK_ok {k : Int} {x : D} {M : Mem} : popK k (.ok x M) = fPopAt x k M := rfl
theorem popK_exc {k : Int} {c : Str} {ns : List Str} {ds : List D} {M : Mem} : popK k (.exc c ns ds M) = .exc c ns ds M := rfl
theorem mPopAt_go {mo : SE} {k : Int} {ρ : Rho} {M : Mem} : mPopAt mo k ρ M = popK k (mo ρ M) := rfl
theorem forGo_nil {mg : SG} {mb : SS} {ρ : Rho} {M : Mem} : forGo mg mb [] ρ M = .ok (.nx ρ) M := rfl
def forK3 (mg : SG) (mb : SS) (r : List D) (q : Res Fl) : Res Fl := q.bind fun fl M1 => match fl with
  | .nx ρ2 => forGo mg mb r ρ2 M1
  | .ct ρ2 => forGo mg mb r ρ2 M1
  | .bk ρ2 => .ok (.nx ρ2) M1
  | .rt d => .ok (.rt d) M1
  | .ex ρ2 c ns ds => .ok (.ex ρ2 c ns ds) M1
def forK2 (mg : SG) (mb : SS) (r : List D) (o : Option Rho) (M : Mem) : Res Fl := match o with
  | none => .bad
  | some ρ1 => forK3 mg mb r (mb ρ1 M)
theorem forK2_some {mg : SG} {mb : SS} {r : List D} {ρ : Rho} {M : Mem} : forK2 mg mb r (some ρ) M = forK3 mg mb r (mb ρ M) := rfl
theorem forK3_nx {mg : SG} {mb : SS} {r : List D} {ρ : Rho} {M : Mem} : forK3 mg mb r (.ok (.nx ρ) M) = forGo mg mb r ρ M := rfl
theorem forK3_ct {mg : SG} {mb : SS} {r : List D} {ρ : Rho} {M : Mem} : forK3 mg mb r (.ok (.ct ρ) M) = forGo mg mb r ρ M := rfl
theorem forK3_bk {mg : SG} {mb : SS} {r : List D} {ρ : Rho} {M : Mem} : forK3 mg mb r (.ok (.bk ρ) M) = .ok (.nx ρ) M := rfl
theorem forK3_rt {mg : SG} {mb : SS} {r : List D} {d : D} {M : Mem} : forK3 mg mb r (.ok (.rt d) M) = .ok (.rt d) M := rfl
theorem forK3_ex {mg : SG} {mb : SS} {r : List D} {ρ : Rho} {c : Str} {ns : List Str} {ds : List D} {M : Mem} : forK3 mg mb r (.ok (.ex ρ c ns ds) M) = .ok (.ex ρ c ns ds) M := rfl
theorem forGo_cons {mg : SG} {mb : SS} {d : D} {r : List D} {ρ : Rho} {M : Mem} : forGo mg mb (d :: r) ρ M = forK2 mg mb r (mg d ρ) M := rfl
def forK (mg : SG) (mb : SS) (ρ : Rho) (r : Res (List D)) : Res Fl := liftE r ρ fun ds M1 => forGo mg mb ds ρ M1
theorem forK_ok {mg : SG} {mb : SS} {ds : List D} {ρ : Rho} {M : Mem} : forK mg mb ρ (.ok ds M) = forGo mg mb ds ρ M := rfl
theorem forK_exc {mg : SG} {mb : SS} {ρ : Rho} {c : Str} {ns : List Str} {ds : List D} {M : Mem} : forK mg mb ρ (.exc c ns ds M) = .ok (.ex ρ c ns ds) M := rfl
theorem mFor_go {mi : SI} {mg : SG} {mb : SS} {ρ : Rho} {M : Mem} : mFor mi mg mb ρ M = forK mg mb ρ (mi ρ M) := rfl
def lcE  (r : Res (List D)) : Res D := r.bind fun ys M2 => .ok (.lst ys) M2
theorem lcE_ok  {ys : List D} {M : Mem} : lcE  (.ok ys M) = .ok (.lst ys) M := rfl
theorem lcE_exc  {c : Str} {ns : List Str} {ds : List D} {M : Mem} : lcE  (.exc c ns ds M) = .exc c ns ds M := rfl
def lcK (mg : SG) (tt : ST) (te : SE) (vs : List Nat) (ρ : Rho) (r : Res (List D)) : Res D := r.bind fun ds M1 => if ds.length ≤ sizeLine then lcE (lcGo (wipeR ρ vs) mg tt te ds M1) else .bad
theorem lcK_ok {mg : SG} {tt : ST} {te : SE} {vs : List Nat} {ρ : Rho} {ds : List D} {M : Mem} : lcK mg tt te vs ρ (.ok ds M) = if ds.length ≤ sizeLine then lcE (lcGo (wipeR ρ vs) mg tt te ds M) else .bad := rfl
theorem lcK_exc {mg : SG} {tt : ST} {te : SE} {vs : List Nat} {ρ : Rho} {c : Str} {ns : List Str} {ds : List D} {M : Mem} : lcK mg tt te vs ρ (.exc c ns ds M) = .exc c ns ds M := rfl
theorem mLc_go {mi : SI} {mg : SG} {tt : ST} {te : SE} {vs : List Nat} {ρ : Rho} {M : Mem} : mLc mi mg tt te vs ρ M = lcK mg tt te vs ρ (mi ρ M) := rfl
theorem wipe_nil {ρ : Rho} : wipeR ρ [] = ρ := rfl
theorem wipe_cons {ρ : Rho} {v : Nat} {vs : List Nat} : wipeR ρ (v :: vs) = (wipeR ρ vs).set v .no := rfl
theorem lcGo_nil {ρ : Rho} {mg : SG} {tt : ST} {te : SE} {M : Mem} : lcGo ρ mg tt te [] M = .ok [] M := rfl
def lcK4 (ρ : Rho) (mg : SG) (tt : ST) (te : SE) (r : List D) (q : Res D) : Res (List D) := q.noX.bind fun y M2 => consK2 y (lcGo ρ mg tt te r M2)
theorem lcK4_ok {ρ : Rho} {mg : SG} {tt : ST} {te : SE} {r : List D} {y : D} {M : Mem} : lcK4 ρ mg tt te r (.ok y M) = consK2 y (lcGo ρ mg tt te r M) := rfl
def lcK3 (ρ : Rho) (mg : SG) (tt : ST) (te : SE) (r : List D) (ρ1 : Rho) (q : Res Bool) : Res (List D) := q.noX.bind fun b M1 => if b = true then lcK4 ρ mg tt te r (te ρ1 M1) else lcGo ρ mg tt te r M1
theorem lcK3_t {ρ : Rho} {mg : SG} {tt : ST} {te : SE} {r : List D} {ρ1 : Rho} {M : Mem} : lcK3 ρ mg tt te r ρ1 (.ok true M) = lcK4 ρ mg tt te r (te ρ1 M) := rfl
theorem lcK3_f {ρ : Rho} {mg : SG} {tt : ST} {te : SE} {r : List D} {ρ1 : Rho} {M : Mem} : lcK3 ρ mg tt te r ρ1 (.ok false M) = lcGo ρ mg tt te r M := rfl
def lcK2 (ρ : Rho) (mg : SG) (tt : ST) (te : SE) (r : List D) (M : Mem) (o : Option Rho) : Res (List D) := match o with
  | none => .bad
  | some ρ1 => lcK3 ρ mg tt te r ρ1 (tt ρ1 M)
theorem lcK2_some {ρ : Rho} {mg : SG} {tt : ST} {te : SE} {r : List D} {ρ1 : Rho} {M : Mem} : lcK2 ρ mg tt te r M (some ρ1) = lcK3 ρ mg tt te r ρ1 (tt ρ1 M) := rfl
theorem lcGo_cons {ρ : Rho} {mg : SG} {tt : ST} {te : SE} {d : D} {r : List D} {M : Mem} : lcGo ρ mg tt te (d :: r) M = lcK2 ρ mg tt te r M (mg d ρ) := rfl
def rng1K  (r : Res (List D)) : Res (List D) := r.bind fun ds M1 => match ds with | [.int j] => if -(2 ^ 62) ≤ j ∧ j < 2 ^ 62 then .ok (intsD 0 j.toNat) M1 else .bad | _ => .bad
theorem rng1K_ok  {j : Int} {M : Mem} : rng1K  (.ok [.int j] M) = if -(2 ^ 62) ≤ j ∧ j < 2 ^ 62 then .ok (intsD 0 j.toNat) M else .bad := rfl
theorem rng1K_exc  {c : Str} {ns : List Str} {ds : List D} {M : Mem} : rng1K  (.exc c ns ds M) = .exc c ns ds M := rfl
theorem mRng1_go {m : SA} {ρ : Rho} {M : Mem} : mRng1 m ρ M = rng1K (m ρ M) := rfl
def itK  (r : Res D) : Res (List D) := r.bind fun d M1 => itemsOf d M1
theorem itK_ok  {ds : List D} {M : Mem} : itK  (.ok (.lst ds) M) = .ok ds M := rfl
theorem itK_ok1  {ds : List D} {M : Mem} : itK  (.ok (.tup ds) M) = .ok ds M := rfl
theorem itK_ok2  {x : Str} {M : Mem} : itK  (.ok (.str x) M) = .ok (signsD x) M := rfl
theorem itK_exc  {c : Str} {ns : List Str} {ds : List D} {M : Mem} : itK  (.exc c ns ds M) = .exc c ns ds M := rfl
theorem mIAny_go {m : SE} {ρ : Rho} {M : Mem} : mIAny m ρ M = itK (m ρ M) := rfl
def zipK  (r : Res (List D)) : Res (List D) := r.bind fun ds M1 => match ds with | [.lst xs, .lst ys] => .ok ((xs.zip ys).map fun p => D.tup [p.1, p.2]) M1 | [.tup xs, .tup ys] => .ok ((xs.zip ys).map fun p => D.tup [p.1, p.2]) M1 | _ => .bad
theorem zipK_ok  {xs ys : List D} {M : Mem} : zipK  (.ok [.lst xs, .lst ys] M) = .ok ((xs.zip ys).map fun p => D.tup [p.1, p.2]) M := rfl
theorem zipK_ok1  {xs ys : List D} {M : Mem} : zipK  (.ok [.tup xs, .tup ys] M) = .ok ((xs.zip ys).map fun p => D.tup [p.1, p.2]) M := rfl
theorem zipK_exc  {c : Str} {ns : List Str} {ds : List D} {M : Mem} : zipK  (.exc c ns ds M) = .exc c ns ds M := rfl
theorem mZip_go {m : SA} {ρ : Rho} {M : Mem} : mZip m ρ M = zipK (m ρ M) := rfl
def callK (n : Nat) (g : GF) (dd : List D) (r : Res (List D)) : Res D := r.bind fun ds M1 => if (ds ++ dd).length = n then g (ds ++ dd) M1 else .bad
theorem callK_ok {n : Nat} {g : GF} {dd : List D} {ds : List D} {M : Mem} : callK n g dd (.ok ds M) = if (ds ++ dd).length = n then g (ds ++ dd) M else .bad := rfl
theorem callK_exc {n : Nat} {g : GF} {dd : List D} {c : Str} {ns : List Str} {ds : List D} {M : Mem} : callK n g dd (.exc c ns ds M) = .exc c ns ds M := rfl
theorem mCall_go {n : Nat} {g : GF} {dd : List D} {ma : SA} {ρ : Rho} {M : Mem} : mCall n g dd ma ρ M = callK n g dd (ma ρ M) := rfl
def kcK2 (n a b : Nat) (g : GF) (pm : List D → List D → List D) (ds : List D) (r : Res (List D)) : Res D := r.bind fun es M2 => if ds.length = a ∧ es.length = b ∧ (pm ds es).length = n then g (pm ds es) M2 else .bad
theorem kcK2_ok {n a b : Nat} {g : GF} {pm : List D → List D → List D} {ds : List D} {es : List D} {M : Mem} : kcK2 n a b g pm ds (.ok es M) = if ds.length = a ∧ es.length = b ∧ (pm ds es).length = n then g (pm ds es) M else .bad := rfl
theorem kcK2_exc {n a b : Nat} {g : GF} {pm : List D → List D → List D} {ds : List D} {c : Str} {ns : List Str} {ds : List D} {M : Mem} : kcK2 n a b g pm ds (.exc c ns ds M) = .exc c ns ds M := rfl
def kcK (n a b : Nat) (g : GF) (pm : List D → List D → List D) (mk : SA) (ρ : Rho) (r : Res (List D)) : Res D := r.bind fun ds M1 => kcK2 n a b g pm ds (mk ρ M1)
theorem kcK_ok {n a b : Nat} {g : GF} {pm : List D → List D → List D} {mk : SA} {ρ : Rho} {ds : List D} {M : Mem} : kcK n a b g pm mk ρ (.ok ds M) = kcK2 n a b g pm ds (mk ρ M) := rfl
theorem kcK_exc {n a b : Nat} {g : GF} {pm : List D → List D → List D} {mk : SA} {ρ : Rho} {c : Str} {ns : List Str} {ds : List D} {M : Mem} : kcK n a b g pm mk ρ (.exc c ns ds M) = .exc c ns ds M := rfl
theorem mCallK_go {n a b : Nat} {g : GF} {pm : List D → List D → List D} {ma mk : SA} {ρ : Rho} {M : Mem} : mCallK n a b g pm ma mk ρ M = kcK n a b g pm mk ρ (ma ρ M) := rfl
def cbK (f : List D → Mem → Res D) (r : Res (List D)) : Res D := r.bind fun ds M1 => f ds M1
theorem cbK_ok {f : List D → Mem → Res D} {ds : List D} {M : Mem} : cbK f (.ok ds M) = f ds M := rfl
theorem cbK_exc {f : List D → Mem → Res D} {c : Str} {ns : List Str} {ds : List D} {M : Mem} : cbK f (.exc c ns ds M) = .exc c ns ds M := rfl
theorem mCB_go {f : List D → Mem → Res D} {ma : SA} {ρ : Rho} {M : Mem} : mCB f ma ρ M = cbK f (ma ρ M) := rfl
theorem f1_go {f : D → Mem → Res D} {d : D} {M : Mem} : f1 f [d] M = f d M := rfl
def chK4 (f2 : D → D → Mem → Res D) (y : D) (r : Res D) : Res D := r.bind fun w M4 => f2 y w M4
theorem chK4_ok {f2 : D → D → Mem → Res D} {y : D} {w : D} {M : Mem} : chK4 f2 y (.ok w M) = f2 y w M := rfl
theorem chK4_exc {f2 : D → D → Mem → Res D} {y : D} {c : Str} {ns : List Str} {ds : List D} {M : Mem} : chK4 f2 y (.exc c ns ds M) = .exc c ns ds M := rfl
def chK3 (f2 : D → D → Mem → Res D) (mc : SE) (ρ : Rho) (y : D) (r : Res D) : Res D := r.bind fun z M3 => match z with | .bl true => chK4 f2 y (mc ρ M3) | .bl false => .ok (.bl false) M3 | _ => .bad
theorem chK3_ok {f2 : D → D → Mem → Res D} {mc : SE} {ρ : Rho} {y : D}  {M : Mem} : chK3 f2 mc ρ y (.ok (.bl true) M) = chK4 f2 y (mc ρ M) := rfl
theorem chK3_ok1 {f2 : D → D → Mem → Res D} {mc : SE} {ρ : Rho} {y : D}  {M : Mem} : chK3 f2 mc ρ y (.ok (.bl false) M) = .ok (.bl false) M := rfl
theorem chK3_exc {f2 : D → D → Mem → Res D} {mc : SE} {ρ : Rho} {y : D} {c : Str} {ns : List Str} {ds : List D} {M : Mem} : chK3 f2 mc ρ y (.exc c ns ds M) = .exc c ns ds M := rfl
def chK2 (f f2 : D → D → Mem → Res D) (mc : SE) (ρ : Rho) (x : D) (r : Res D) : Res D := r.bind fun y M2 => chK3 f2 mc ρ y (f x y M2)
theorem chK2_ok {f f2 : D → D → Mem → Res D} {mc : SE} {ρ : Rho} {x : D} {y : D} {M : Mem} : chK2 f f2 mc ρ x (.ok y M) = chK3 f2 mc ρ y (f x y M) := rfl
theorem chK2_exc {f f2 : D → D → Mem → Res D} {mc : SE} {ρ : Rho} {x : D} {c : Str} {ns : List Str} {ds : List D} {M : Mem} : chK2 f f2 mc ρ x (.exc c ns ds M) = .exc c ns ds M := rfl
def chK (f f2 : D → D → Mem → Res D) (mb mc : SE) (ρ : Rho) (r : Res D) : Res D := r.bind fun x M1 => chK2 f f2 mc ρ x (mb ρ M1)
theorem chK_ok {f f2 : D → D → Mem → Res D} {mb mc : SE} {ρ : Rho} {x : D} {M : Mem} : chK f f2 mb mc ρ (.ok x M) = chK2 f f2 mc ρ x (mb ρ M) := rfl
theorem chK_exc {f f2 : D → D → Mem → Res D} {mb mc : SE} {ρ : Rho} {c : Str} {ns : List Str} {ds : List D} {M : Mem} : chK f f2 mb mc ρ (.exc c ns ds M) = .exc c ns ds M := rfl
theorem mChain_go {f f2 : D → D → Mem → Res D} {ma mb mc : SE} {ρ : Rho} {M : Mem} : mChain f f2 ma mb mc ρ M = chK f f2 mb mc ρ (ma ρ M) := rfl
theorem mNoPart_go  {ρ : Rho} {M : Mem} : mNoPart ρ M = .ok none M := rfl
def partK  (r : Res D) : Res (Option Int) := r.bind fun d M1 => match d with | .int i => .ok (some i) M1 | _ => .bad
theorem partK_ok  {i : Int} {M : Mem} : partK  (.ok (.int i) M) = .ok (some i) M := rfl
theorem partK_exc  {c : Str} {ns : List Str} {ds : List D} {M : Mem} : partK  (.exc c ns ds M) = .exc c ns ds M := rfl
theorem mPart_go {m : SE} {ρ : Rho} {M : Mem} : mPart m ρ M = partK (m ρ M) := rfl
def slK3 (x : D) (l : Option Int) (r : Res (Option Int)) : Res D := r.bind fun u M3 => fSl x l u M3
theorem slK3_ok {x : D} {l : Option Int} {u : Option Int} {M : Mem} : slK3 x l (.ok u M) = fSl x l u M := rfl
theorem slK3_exc {x : D} {l : Option Int} {c : Str} {ns : List Str} {ds : List D} {M : Mem} : slK3 x l (.exc c ns ds M) = .exc c ns ds M := rfl
def slK2 (mh : SO) (ρ : Rho) (x : D) (r : Res (Option Int)) : Res D := r.bind fun l M2 => slK3 x l (mh ρ M2)
theorem slK2_ok {mh : SO} {ρ : Rho} {x : D} {l : Option Int} {M : Mem} : slK2 mh ρ x (.ok l M) = slK3 x l (mh ρ M) := rfl
theorem slK2_exc {mh : SO} {ρ : Rho} {x : D} {c : Str} {ns : List Str} {ds : List D} {M : Mem} : slK2 mh ρ x (.exc c ns ds M) = .exc c ns ds M := rfl
def slK (ml mh : SO) (ρ : Rho) (r : Res D) : Res D := r.bind fun x M1 => slK2 mh ρ x (ml ρ M1)
theorem slK_ok {ml mh : SO} {ρ : Rho} {x : D} {M : Mem} : slK ml mh ρ (.ok x M) = slK2 mh ρ x (ml ρ M) := rfl
theorem slK_exc {ml mh : SO} {ρ : Rho} {c : Str} {ns : List Str} {ds : List D} {M : Mem} : slK ml mh ρ (.exc c ns ds M) = .exc c ns ds M := rfl
theorem mSl_go {me : SE} {ml mh : SO} {ρ : Rho} {M : Mem} : mSl me ml mh ρ M = slK ml mh ρ (me ρ M) := rfl
theorem fSl_str {z : Str} {lo hi : Option Int} {M : Mem} : fSl (.str z) lo hi M = if z.length ≤ sizeLine then .ok (.str (cutS z lo hi)) M else .bad := rfl
theorem fSl_lst {ds : List D} {lo hi : Option Int} {M : Mem} : fSl (.lst ds) lo hi M = .ok (.lst (cutL ds lo hi)) M := rfl
theorem fSl_tup {ds : List D} {lo hi : Option Int} {M : Mem} : fSl (.tup ds) lo hi M = .ok (.tup (cutL ds lo hi)) M := rfl
theorem fSl_scr {ns : List Int} {lo hi : Option Int} {M : Mem} : fSl (.scr ns) lo hi M = .ok (.lst ((cutL ns lo hi).map D.int)) M := rfl
def m1K2 (f : Str → D → Mem → Res D) (a : Str) (r : Res D) : Res D := r.bind fun d M2 => f a d M2
theorem m1K2_ok {f : Str → D → Mem → Res D} {a : Str} {d : D} {M : Mem} : m1K2 f a (.ok d M) = f a d M := rfl
theorem m1K2_exc {f : Str → D → Mem → Res D} {a : Str} {c : Str} {ns : List Str} {ds : List D} {M : Mem} : m1K2 f a (.exc c ns ds M) = .exc c ns ds M := rfl
def m1K (f : Str → D → Mem → Res D) (me : SE) (ρ : Rho) (r : Res D) : Res D := r.bind fun x M1 => match x with | .str a => m1K2 f a (me ρ M1) | _ => .bad
theorem m1K_ok {f : Str → D → Mem → Res D} {me : SE} {ρ : Rho} {a : Str} {M : Mem} : m1K f me ρ (.ok (.str a) M) = m1K2 f a (me ρ M) := rfl
theorem m1K_exc {f : Str → D → Mem → Res D} {me : SE} {ρ : Rho} {c : Str} {ns : List Str} {ds : List D} {M : Mem} : m1K f me ρ (.exc c ns ds M) = .exc c ns ds M := rfl
theorem mM1_go {f : Str → D → Mem → Res D} {mo me : SE} {ρ : Rho} {M : Mem} : mM1 f mo me ρ M = m1K f me ρ (mo ρ M) := by
  unfold mM1 m1K
  cases mo ρ M with
  | ok d M1 => cases d <;> rfl
  | _ => rfl
theorem atI_at {α : Type} {xs : List α} {n : Nat} {a : α} (h : xs[n]? = some a) : atI xs (n : Int) = some a := by
  have l : n < xs.length := by
    have := List.getElem?_eq_some_iff.mp h
    exact this.1
  show (ixN xs.length (n : Int)).bind (fun j => xs[j]?) = some a
  have e : ixN xs.length (n : Int) = some n := by
    unfold ixN
    rw [if_pos (by omega), if_pos (by omega)]
    rfl
  rw [e]
  exact h
theorem size_eq : sizeLine = 16777216 := rfl
theorem fLt_int {i j : Int} {M : Mem} : fLt (.int i) (.int j) M = .ok (.bl (decide (i < j))) M := rfl
theorem fLe_int {i j : Int} {M : Mem} : fLe (.int i) (.int j) M = .ok (.bl (decide (i ≤ j))) M := rfl
theorem fGt_int {i j : Int} {M : Mem} : fGt (.int i) (.int j) M = .ok (.bl (decide (j < i))) M := rfl
theorem fGe_int {i j : Int} {M : Mem} : fGe (.int i) (.int j) M = .ok (.bl (decide (j ≤ i))) M := rfl
theorem fSub_int {i j : Int} {M : Mem} : fSub (.int i) (.int j) M = .ok (.int (i - j)) M := rfl
theorem fAdd_int {i j : Int} {M : Mem} : fAdd (.int i) (.int j) M = .ok (.int (i + j)) M := rfl
theorem ite_els {α : Type} {c : Prop} [Decidable c] {a : α} {M : Mem} {u : Res α} (h : c) : (if c then Res.ok a M else .bad).els u = .ok a M := by rw [if_pos h]; rfl
theorem fAdd_str {i j : Str} {M : Mem} (h : i.length + j.length ≤ sizeLine) : fAdd (.str i) (.str j) M = .ok (.str (i ++ j)) M := by
  show (if i.length + j.length ≤ sizeLine then Res.ok (D.str (i ++ j)) M else .bad).els _ = _
  rw [if_pos h]
  rfl
theorem fAdd_lst {i j : List D} {M : Mem} (h : i.length + j.length ≤ sizeLine) : fAdd (.lst i) (.lst j) M = .ok (.lst (i ++ j)) M := by
  show (if i.length + j.length ≤ sizeLine then Res.ok (D.lst (i ++ j)) M else .bad).els _ = _
  rw [if_pos h]
  rfl
theorem fMul_int {i j : Int} {M : Mem} (h : (-(2 ^ 64) < i ∧ i < 2 ^ 64) ∨ (-(2 ^ 64) < j ∧ j < 2 ^ 64)) : fMul (.int i) (.int j) M = .ok (.int (i * j)) M := by
  have e : cMulB i j = true := decide_eq_true h
  show (if cMulB i j = true then Res.ok (D.int (i * j)) M else .bad).els _ = _
  rw [if_pos e]
  rfl
theorem fMul_lst {i : List D} {n : Int} {M : Mem} (h : 0 ≤ n ∧ n < 2 ^ 63 ∧ i.length * n.toNat ≤ sizeLine) : fMul (.lst i) (.int n) M = .ok (.lst (List.replicate n.toNat i).flatten) M := by
  show (if 0 ≤ n ∧ n < 2 ^ 63 ∧ i.length * n.toNat ≤ sizeLine then Res.ok (D.lst (List.replicate n.toNat i).flatten) M else .bad) = _
  rw [if_pos h]
theorem log2_lt {j : Int} (h : 0 < j) (h2 : j < 2 ^ 62) : j.natAbs.log2 < 9000 := by
  have h3 : j.natAbs < 2 ^ 62 := by omega
  have := Nat.log2_lt (by omega : j.natAbs ≠ 0) |>.mpr h3
  omega
theorem fFdiv_int {i j : Int} {M : Mem} (h : 0 < j) (h2 : j < 2 ^ 62) : fFdiv (.int i) (.int j) M = .ok (.int (i / j)) M := by
  show (if decide (0 < j ∧ j.natAbs.log2 < 9000) = true then Res.ok (D.int (i / j)) M else .bad) = _
  rw [if_pos (decide_eq_true ⟨h, log2_lt h h2⟩)]
theorem fMod_int {i j : Int} {M : Mem} (h : 0 < j) : fMod (.int i) (.int j) M = .ok (.int (i % j)) M := by
  show (if decide (0 < j) = true then Res.ok (D.int (i % j)) M else .bad) = _
  rw [if_pos (decide_eq_true h)]
theorem fPow_int {i j : Int} {M : Mem} (h : 0 ≤ j ∧ j ≤ 1000000 ∧ i.natAbs < 2 ^ 64) : fPow (.int i) (.int j) M = .ok (.int (i ^ j.toNat)) M := by
  show (if decide (0 ≤ j ∧ j ≤ 1000000 ∧ i.natAbs < 2 ^ 64) = true then Res.ok (D.int (i ^ j.toNat)) M else .bad) = _
  rw [if_pos (decide_eq_true h)]
theorem fEqA_int {i j : Int} {M : Mem} : fEqA (.int i) (.int j) M = .ok (.bl (decide (i = j))) M := by
  show (Res.ok (D.bl (decide (V.int i = V.int j))) M).els _ = _
  simp only [els_ok, V.int.injEq]
theorem fEqA_str {i j : Str} {M : Mem} : fEqA (.str i) (.str j) M = .ok (.bl (decide (i = j))) M := by
  show (Res.ok (D.bl (decide (V.str i = V.str j))) M).els _ = _
  simp only [els_ok, V.str.injEq]
theorem fEqA_bl {i j : Bool} {M : Mem} : fEqA (.bl i) (.bl j) M = .ok (.bl (decide (i = j))) M := by
  show (Res.ok (D.bl (decide (V.bl i = V.bl j))) M).els _ = _
  simp only [els_ok, V.bl.injEq]
theorem fNeA_int {i j : Int} {M : Mem} : fNeA (.int i) (.int j) M = .ok (.bl (!decide (i = j))) M := by
  show (Res.ok (D.bl (!decide (V.int i = V.int j))) M).els _ = _
  simp only [els_ok, V.int.injEq]
theorem fNeA_str {i j : Str} {M : Mem} : fNeA (.str i) (.str j) M = .ok (.bl (!decide (i = j))) M := by
  show (Res.ok (D.bl (!decide (V.str i = V.str j))) M).els _ = _
  simp only [els_ok, V.str.injEq]
theorem pyL_ints : ∀ ns : List Int, pyL (ns.map D.int) = some (ns.map PyData.int)
  | [] => rfl
  | n :: r => by
    show (match py (.int n), pyL (r.map D.int) with | some p, some ps => some (p :: ps) | _, _ => none) = _
    rw [pyL_ints r]
    rfl
theorem ints_lay : ∀ ns : List Int, PyData.canLayAll0 (ns.map PyData.int) = true ∧ PyData.depthAll (ns.map PyData.int) = 0
  | [] => ⟨rfl, rfl⟩
  | n :: r => by
    obtain ⟨h1, h2⟩ := ints_lay r
    refine ⟨?_, ?_⟩
    · show (PyData.canLay0 (.int n) && PyData.canLayAll0 (r.map PyData.int)) = true
      rw [h1]
      rfl
    · show max (PyData.depth (.int n)) (PyData.depthAll (r.map PyData.int)) = 0
      rw [h2]
      rfl
theorem ints_shaped (ns : List Int) : SeqAt.shaped (.list (ns.map PyData.int)) = true := by
  obtain ⟨h1, h2⟩ := ints_lay ns
  show (PyData.canLayAll0 (ns.map PyData.int) && decide (PyData.depthAll (ns.map PyData.int) + 1 ≤ 64)) = true
  rw [h1, h2]
  rfl
theorem fNeA_cells {ns : List Int} {j : Nat} {M : Mem} (h : M[j]? = some (.lst (ns.map D.int))) : fNeA (.obj j) (.lst []) M = .ok (.bl (!ns.isEmpty)) M := by
  have e1 : pyM M (.obj j) = some (.list (ns.map PyData.int)) := by
    show (match M[j]? with
      | some (.lst ds) => (pyL ds).map PyData.list
      | _ => none) = _
    rw [h]
    show (pyL (ns.map D.int)).map PyData.list = _
    rw [pyL_ints]
    rfl
  show fEqM true (.obj j) (.lst []) M = _
  unfold fEqM
  rw [e1]
  show (if (SeqAt.shaped (.list (ns.map PyData.int)) && SeqAt.shaped (.list [])) = true then Res.ok (D.bl (!PyData.eqv (.list (ns.map PyData.int)) (.list []))) M else .bad) = _
  rw [ints_shaped, if_pos (by rfl)]
  cases ns <;> rfl
theorem fIx_lst {ds : List D} {i : Int} {d : D} {M : Mem} (h : atI ds i = some d) : fIx (.lst ds) (.int i) M = .ok d M := by
  show (match atI ds i with | some d => Res.ok d M | none => .bad) = _
  rw [h]
theorem fIx_tup {ds : List D} {i : Int} {d : D} {M : Mem} (h : atI ds i = some d) : fIx (.tup ds) (.int i) M = .ok d M := by
  show (match atI ds i with | some d => Res.ok d M | none => .bad) = _
  rw [h]
theorem fIx_str {z : Str} {i : Int} {c : Nat} {M : Mem} (hz : z.length ≤ sizeLine) (h : atI z.cps.toList i = some c) : fIx (.str z) (.int i) M = .ok (.str ⟨#[c]⟩) M := by
  show (if z.length ≤ sizeLine then (match atI z.cps.toList i with | some c => Res.ok (D.str ⟨#[c]⟩) M | none => .bad) else .bad) = _
  rw [if_pos hz, h]
theorem fIx_obj {j : Nat} {ds : List D} {i : Int} {d : D} {M : Mem} (h0 : M[j]? = some (.lst ds)) (h : atI ds i = some d) : fIx (.obj j) (.int i) M = .ok d M := by
  show (match M[j]? with | some (.lst ds) => (match atI ds i with | some d => Res.ok d M | none => .bad) | _ => .bad) = _
  rw [h0]
  show (match atI ds i with | some d => Res.ok d M | none => .bad) = _
  rw [h]
theorem fLen_str {z : Str} {M : Mem} (h : z.length ≤ sizeLine) : fLen (.str z) M = .ok (.int z.length) M := by
  show (if z.length ≤ sizeLine then Res.ok (D.int z.length) M else .bad) = _
  rw [if_pos h]
def pop2 (j : Nat) (M : Mem) (o : Option MO) : Res D := match o with | some (.lst (d :: ds)) => .ok d (M.set j (.lst ds)) | _ => .bad
theorem fPop_go {j : Nat} {M : Mem} : fPopAt (.obj j) 0 M = pop2 j M (M[j]?) := by
  unfold fPopAt pop2
  cases e : M[j]? with
  | none => simp only [e]
  | some o =>
    cases o with
    | lst ds =>
      simp only [e]
      rw [if_pos (by decide)]
      cases ds with
      | nil => rfl
      | cons d ds =>
        have e2 : seqIndex? 0 (d :: ds).length = some 0 := seqIndex_of (by omega) (by simp only [List.length_cons]; omega)
        rw [e2]
        rfl
    | _ => simp only [e]
def ixL (o : Option D) (M : Mem) : Res D := match o with | some d => .ok d M | none => .bad
def ixO (o : Option MO) (i : Int) (M : Mem) : Res D := match o with | some (.lst ds) => ixL (atI ds i) M | _ => .bad
def ixS (z : Str) (o : Option Nat) (M : Mem) : Res D := if z.length ≤ sizeLine then (match o with | some c => .ok (.str ⟨#[c]⟩) M | none => .bad) else .bad
theorem pop2_ok {j : Nat} {d : D} {ds : List D} {M : Mem} : pop2 j M (some (.lst (d :: ds))) = .ok d (M.set j (.lst ds)) := rfl
theorem ixL_ok {d : D} {M : Mem} : ixL (some d) M = .ok d M := rfl
theorem ixO_ok {ds : List D} {i : Int} {M : Mem} : ixO (some (.lst ds)) i M = ixL (atI ds i) M := rfl
theorem fIx_goL {ds : List D} {i : Int} {M : Mem} : fIx (.lst ds) (.int i) M = ixL (atI ds i) M := rfl
theorem fIx_goT {ds : List D} {i : Int} {M : Mem} : fIx (.tup ds) (.int i) M = ixL (atI ds i) M := rfl
theorem fIx_goO {j : Nat} {i : Int} {M : Mem} : fIx (.obj j) (.int i) M = ixO (M[j]?) i M := by
  cases e : M[j]? with
  | none => simp only [fIx, ixO, e]
  | some o => cases o <;> simp only [fIx, ixO, e]
  <;> rfl
theorem atI_0 {α : Type} {a0 : α} {r : List α} : atI (a0 :: r) 0 = some a0 := atI_at (n := 0) rfl
theorem ixN_1_0 : ixN 1 0 = some 0 := rfl
theorem ixN_2_0 : ixN 2 0 = some 0 := rfl
theorem ixN_3_0 : ixN 3 0 = some 0 := rfl
theorem ixN_4_0 : ixN 4 0 = some 0 := rfl
theorem ixN_5_0 : ixN 5 0 = some 0 := rfl
theorem ixN_6_0 : ixN 6 0 = some 0 := rfl
theorem atI_1 {α : Type} {a0 a1 : α} {r : List α} : atI (a0 :: a1 :: r) 1 = some a1 := atI_at (n := 1) rfl
theorem ixN_2_1 : ixN 2 1 = some 1 := rfl
theorem ixN_3_1 : ixN 3 1 = some 1 := rfl
theorem ixN_4_1 : ixN 4 1 = some 1 := rfl
theorem ixN_5_1 : ixN 5 1 = some 1 := rfl
theorem ixN_6_1 : ixN 6 1 = some 1 := rfl
theorem atI_2 {α : Type} {a0 a1 a2 : α} {r : List α} : atI (a0 :: a1 :: a2 :: r) 2 = some a2 := atI_at (n := 2) rfl
theorem ixN_3_2 : ixN 3 2 = some 2 := rfl
theorem ixN_4_2 : ixN 4 2 = some 2 := rfl
theorem ixN_5_2 : ixN 5 2 = some 2 := rfl
theorem ixN_6_2 : ixN 6 2 = some 2 := rfl
theorem atI_3 {α : Type} {a0 a1 a2 a3 : α} {r : List α} : atI (a0 :: a1 :: a2 :: a3 :: r) 3 = some a3 := atI_at (n := 3) rfl
theorem ixN_4_3 : ixN 4 3 = some 3 := rfl
theorem ixN_5_3 : ixN 5 3 = some 3 := rfl
theorem ixN_6_3 : ixN 6 3 = some 3 := rfl
theorem atI_4 {α : Type} {a0 a1 a2 a3 a4 : α} {r : List α} : atI (a0 :: a1 :: a2 :: a3 :: a4 :: r) 4 = some a4 := atI_at (n := 4) rfl
theorem ixN_5_4 : ixN 5 4 = some 4 := rfl
theorem ixN_6_4 : ixN 6 4 = some 4 := rfl
theorem atI_5 {α : Type} {a0 a1 a2 a3 a4 a5 : α} {r : List α} : atI (a0 :: a1 :: a2 :: a3 :: a4 :: a5 :: r) 5 = some a5 := atI_at (n := 5) rfl
theorem ixN_6_5 : ixN 6 5 = some 5 := rfl
theorem atI_6 {α : Type} {a0 a1 a2 a3 a4 a5 a6 : α} {r : List α} : atI (a0 :: a1 :: a2 :: a3 :: a4 :: a5 :: a6 :: r) 6 = some a6 := atI_at (n := 6) rfl
theorem atI_7 {α : Type} {a0 a1 a2 a3 a4 a5 a6 a7 : α} {r : List α} : atI (a0 :: a1 :: a2 :: a3 :: a4 :: a5 :: a6 :: a7 :: r) 7 = some a7 := atI_at (n := 7) rfl
theorem atI_8 {α : Type} {a0 a1 a2 a3 a4 a5 a6 a7 a8 : α} {r : List α} : atI (a0 :: a1 :: a2 :: a3 :: a4 :: a5 :: a6 :: a7 :: a8 :: r) 8 = some a8 := atI_at (n := 8) rfl
theorem atI_9 {α : Type} {a0 a1 a2 a3 a4 a5 a6 a7 a8 a9 : α} {r : List α} : atI (a0 :: a1 :: a2 :: a3 :: a4 :: a5 :: a6 :: a7 :: a8 :: a9 :: r) 9 = some a9 := atI_at (n := 9) rfl
theorem atI_10 {α : Type} {a0 a1 a2 a3 a4 a5 a6 a7 a8 a9 a10 : α} {r : List α} : atI (a0 :: a1 :: a2 :: a3 :: a4 :: a5 :: a6 :: a7 :: a8 :: a9 :: a10 :: r) 10 = some a10 := atI_at (n := 10) rfl
theorem atI_11 {α : Type} {a0 a1 a2 a3 a4 a5 a6 a7 a8 a9 a10 a11 : α} {r : List α} : atI (a0 :: a1 :: a2 :: a3 :: a4 :: a5 :: a6 :: a7 :: a8 :: a9 :: a10 :: a11 :: r) 11 = some a11 := atI_at (n := 11) rfl
theorem atI_12 {α : Type} {a0 a1 a2 a3 a4 a5 a6 a7 a8 a9 a10 a11 a12 : α} {r : List α} : atI (a0 :: a1 :: a2 :: a3 :: a4 :: a5 :: a6 :: a7 :: a8 :: a9 :: a10 :: a11 :: a12 :: r) 12 = some a12 := atI_at (n := 12) rfl
theorem fLen_lst {ds : List D} {M : Mem} : fLen (.lst ds) M = .ok (.int ds.length) M := rfl
theorem fLen_tup {ds : List D} {M : Mem} : fLen (.tup ds) M = .ok (.int ds.length) M := rfl
theorem fInt1_int {i : Int} {M : Mem} : fInt1 (.int i) M = .ok (.int i) M := rfl
theorem isi_non_bool {M : Mem} : fIsi [.non, .ty "bool"] M = .ok (.bl false) M := rfl
theorem isi_bl_bool {b : Bool} {M : Mem} : fIsi [(.bl b), .ty "bool"] M = .ok (.bl true) M := rfl
theorem isi_int_bool {i : Int} {M : Mem} : fIsi [(.int i), .ty "bool"] M = .ok (.bl false) M := rfl
theorem isi_str_bool {z : Str} {M : Mem} : fIsi [(.str z), .ty "bool"] M = .ok (.bl false) M := rfl
theorem isi_lst_bool {ds : List D} {M : Mem} : fIsi [(.lst ds), .ty "bool"] M = .ok (.bl false) M := rfl
theorem isi_tup_bool {ds : List D} {M : Mem} : fIsi [(.tup ds), .ty "bool"] M = .ok (.bl false) M := rfl
theorem isi_non_int {M : Mem} : fIsi [.non, .ty "int"] M = .ok (.bl false) M := rfl
theorem isi_bl_int {b : Bool} {M : Mem} : fIsi [(.bl b), .ty "int"] M = .ok (.bl true) M := rfl
theorem isi_int_int {i : Int} {M : Mem} : fIsi [(.int i), .ty "int"] M = .ok (.bl true) M := rfl
theorem isi_str_int {z : Str} {M : Mem} : fIsi [(.str z), .ty "int"] M = .ok (.bl false) M := rfl
theorem isi_lst_int {ds : List D} {M : Mem} : fIsi [(.lst ds), .ty "int"] M = .ok (.bl false) M := rfl
theorem isi_tup_int {ds : List D} {M : Mem} : fIsi [(.tup ds), .ty "int"] M = .ok (.bl false) M := rfl
theorem isi_non_str {M : Mem} : fIsi [.non, .ty "str"] M = .ok (.bl false) M := rfl
theorem isi_bl_str {b : Bool} {M : Mem} : fIsi [(.bl b), .ty "str"] M = .ok (.bl false) M := rfl
theorem isi_int_str {i : Int} {M : Mem} : fIsi [(.int i), .ty "str"] M = .ok (.bl false) M := rfl
theorem isi_str_str {z : Str} {M : Mem} : fIsi [(.str z), .ty "str"] M = .ok (.bl true) M := rfl
theorem isi_lst_str {ds : List D} {M : Mem} : fIsi [(.lst ds), .ty "str"] M = .ok (.bl false) M := rfl
theorem isi_tup_str {ds : List D} {M : Mem} : fIsi [(.tup ds), .ty "str"] M = .ok (.bl false) M := rfl
theorem isi_non_list {M : Mem} : fIsi [.non, .ty "list"] M = .ok (.bl false) M := rfl
theorem isi_bl_list {b : Bool} {M : Mem} : fIsi [(.bl b), .ty "list"] M = .ok (.bl false) M := rfl
theorem isi_int_list {i : Int} {M : Mem} : fIsi [(.int i), .ty "list"] M = .ok (.bl false) M := rfl
theorem isi_str_list {z : Str} {M : Mem} : fIsi [(.str z), .ty "list"] M = .ok (.bl false) M := rfl
theorem isi_lst_list {ds : List D} {M : Mem} : fIsi [(.lst ds), .ty "list"] M = .ok (.bl true) M := rfl
theorem isi_tup_list {ds : List D} {M : Mem} : fIsi [(.tup ds), .ty "list"] M = .ok (.bl false) M := rfl
theorem isi_non_tuple {M : Mem} : fIsi [.non, .ty "tuple"] M = .ok (.bl false) M := rfl
theorem isi_bl_tuple {b : Bool} {M : Mem} : fIsi [(.bl b), .ty "tuple"] M = .ok (.bl false) M := rfl
theorem isi_int_tuple {i : Int} {M : Mem} : fIsi [(.int i), .ty "tuple"] M = .ok (.bl false) M := rfl
theorem isi_str_tuple {z : Str} {M : Mem} : fIsi [(.str z), .ty "tuple"] M = .ok (.bl false) M := rfl
theorem isi_lst_tuple {ds : List D} {M : Mem} : fIsi [(.lst ds), .ty "tuple"] M = .ok (.bl false) M := rfl
theorem isi_tup_tuple {ds : List D} {M : Mem} : fIsi [(.tup ds), .ty "tuple"] M = .ok (.bl true) M := rfl
theorem isi_non_dict {M : Mem} : fIsi [.non, .ty "dict"] M = .ok (.bl false) M := rfl
theorem isi_bl_dict {b : Bool} {M : Mem} : fIsi [(.bl b), .ty "dict"] M = .ok (.bl false) M := rfl
theorem isi_int_dict {i : Int} {M : Mem} : fIsi [(.int i), .ty "dict"] M = .ok (.bl false) M := rfl
theorem isi_str_dict {z : Str} {M : Mem} : fIsi [(.str z), .ty "dict"] M = .ok (.bl false) M := rfl
theorem isi_lst_dict {ds : List D} {M : Mem} : fIsi [(.lst ds), .ty "dict"] M = .ok (.bl false) M := rfl
theorem isi_tup_dict {ds : List D} {M : Mem} : fIsi [(.tup ds), .ty "dict"] M = .ok (.bl false) M := rfl
theorem isN_non {n : Bool} {M : Mem} : fIsN n .non .non M = .ok (.bl (!n)) M := rfl
theorem isN_bl {n : Bool} {b : Bool} {M : Mem} : fIsN n (.bl b) .non M = .ok (.bl n) M := rfl
theorem isN_int {n : Bool} {i : Int} {M : Mem} : fIsN n (.int i) .non M = .ok (.bl n) M := rfl
theorem isN_str {n : Bool} {z : Str} {M : Mem} : fIsN n (.str z) .non M = .ok (.bl n) M := rfl
theorem isN_lst {n : Bool} {ds : List D} {M : Mem} : fIsN n (.lst ds) .non M = .ok (.bl n) M := rfl
theorem isN_tup {n : Bool} {ds : List D} {M : Mem} : fIsN n (.tup ds) .non M = .ok (.bl n) M := rfl
def bodyK (r : Res Fl) : Res D := match r with
  | .ok (.nx _) M1 => .ok .non M1
  | .ok (.rt d) M1 => .ok d M1
  | .ok (.ex _ c ns vs) M1 => .exc c ns vs M1
  | _ => .bad
theorem body_eq {N : Nat} {m : SS} {ds : List D} {M : Mem} : mBody N m ds M = bodyK (m (rho0 N ds) M) := rfl

theorem bodyK_nx {ρ : Rho} {M : Mem} : bodyK (.ok (.nx ρ) M) = .ok .non M := rfl
theorem bodyK_rt {d : D} {M : Mem} : bodyK (.ok (.rt d) M) = .ok d M := rfl
theorem bodyK_ex {ρ : Rho} {c : Str} {ns : List Str} {ds : List D} {M : Mem} : bodyK (.ok (.ex ρ c ns ds) M) = .exc c ns ds M := rfl
end DL

end
section
set_option maxHeartbeats 4000000
namespace SU
open PySem PySem.Spec PyProof.Rows L2 NdefX
theorem boot_super : bootBuiltins "super" = some (.type "super") := by kernel_rfl
/-- a def's own words for super(): the cell of its class D, its first parameter -/
structure SupX (X : Cx) (D : Addr) (x0 : Str) : Prop where
  ks : X.env.kindOf "super" = some .globalImplicit
  kc : X.env.kindOf "__class__" = some .free
  k0 : X.env.kindOf x0 = some .local
  fn : ∃ (f : Addr) (oc : Value) (od : Option Addr) (fd : FuncData) (osl : Array (Option Value)) (ar : Arg), X.env.func = some f ∧ X.K.lookup f = some ⟨oc, od, .func fd, osl⟩ ∧ (fd.params.posonlyargs ++ fd.params.args).head? = some ar ∧ ar.arg = x0
  code : ∃ (cda : Addr) (ccl : Value) (cdd : Option Addr) (vs : Array Value) (ccs : Array (Option Value)) (file : Str) (tf : Tok), X.env.code = .ref cda ∧ X.K.lookup cda = some ⟨ccl, cdd, .fields vs, ccs⟩ ∧ vs[2]? = some (.str file tf) ∧ ((X.prog.main.file : Str) == file) = true
  cell : ∃ (cc : Addr) (cl : Value) (cld : Option Addr) (csl : Array (Option Value)), X.env.cells.lookup ("__class__" : Str) = some cc ∧ X.K.lookup cc = some ⟨cl, cld, .cell (some (.ref D)), csl⟩
  cls : ∃ cdD : ClassData, PySem.W.clsIn X.K D = some cdD
  top : (X.prog.main.scope.names.lookup ("super" : Str)).isSome = false
  mgs : X.mg "super" = none
  any : PySem.W.nsIn X.K cStatics "thirdparty.any" = some none
section
variable {X : Cx} {D : Addr} {x0 : Str} {pins : List (Addr × Obj)} {σ : L2.St} {H : Hp} {s : Shared} {body : List Stmt} {E : Value → Shared → Prop}
theorem super_get {x C dx g : Addr} {fs : List (Str × V)} {i0 : Nat} {m : Str} {p0 p1 : Pos} {whole : Sem Value} {pl : Sem Bool} {Q : Value × List Value → Shared → Prop} (S : SupX X D x0) (hN : X.N[i0]? = some x0)
    (I : Inv X pins σ H s) (hσ : σ[i0]? = some (some (.ref x))) (hx : H x = some (.ins C dx fs)) (hsub : PySem.W.mroIn X.K C (.ref D) = some true) (hm : PySem.W.ks_superIn X.K C D m = some (some (.ref g)))
    (ht : PySem.W.typeIn X.K (.ref g) = some (.type "function")) (hn : (m == ("__class__" : Str)) = false)
    (h : ∀ q s', H q = none → Inv X pins σ (upd H q (.met g x)) s' → Q (.ref q, []) s') :
    _root_.PySem.wpAt (model X.prog X.w) X.A (.func body X.env) (attributeBase (.Call (.Name "super" p0) [] [] p1) m X.env whole) (fun ov s1 => wpAny (model X.prog X.w) X.A (getMethod ov m pl) Q E s1) E s := by
  obtain ⟨f, oc, od, fd, osl, ar, hf1, hf2, hf3, hf4⟩ := S.fn
  obtain ⟨cda, ccl, cdd, vs, ccs, file, tf, hc1, hc2, hc3, hc4⟩ := S.code
  obtain ⟨cc, cl, cld, csl, hl1, hl2⟩ := S.cell
  obtain ⟨cdD, hD⟩ := S.cls
  have KX := I.kIn
  subst hf4
  obtain ⟨mA, O, _, _, _, _⟩ := ins_get I.hok hx
  obtain ⟨odx, J, _⟩ := O.look
  obtain ⟨ml, hns, hlk⟩ := I.loc
  obtain ⟨u, ru, lk⟩ := hlk i0 ar.arg (.ref x) hN hσ (.inl S.k0)
  have eu : u = .ref x := ru
  subst eu
  have hv : ml ar.arg = some (.ref x) := by
    rcases lk with ⟨_, e⟩ | ⟨e, _⟩
    · exact e
    · rw [S.k0] at e
      rcases e with e | e <;> cases e
  obtain ⟨oD, hD1, hD2⟩ : ∃ oD, s.heap.get? D = some oD ∧ oD.data = .cls cdD := by
    unfold PySem.W.clsIn at hD
    split at hD
    · rename_i c d cd' sl ho
      cases hD
      exact ⟨_, KX _ _ ho, rfl⟩
    · cases hD
  obtain ⟨mb, hb1, hb2⟩ := I.mod.blt
  refine ks_wpAt_super_base (env := X.env) S.ks S.kc hn hf1 (KX _ _ hf2) rfl hf3 hc1 (KX _ _ hc2) rfl hc3 hc4 S.top ?_
  refine PySem.W.ks_loadName_global I.ok.kind S.ks (Calls.loadGlobal_builtin (by rw [I.ok.glob]; exact I.mod.glob.keeps I.bk) S.mgs (by rw [I.ok.blt]; exact hb1.keeps I.bk) ((hb2 _ (by decide +kernel)).trans boot_super) ⟨rfl, ?_⟩)
  refine wpAny_loadName_free I.ok.kind S.kc hl1 ⟨_, KX _ _ hl2, rfl⟩ ?_
  refine wpAny_loadName_local I.ok.kind S.k0 hns hv ?_
  obtain ⟨hh, g0, d0, t0, os0⟩ := s
  refine ks_wpAny_isType_cls hD1 hD2 ⟨rfl, ?_⟩
  refine ks_wpAny_call_super hD1 hD2 J.at_ J.cls (fun c e => ?_) (PySem.W.looks_mroIn KX hsub) (fun h' e k => ?_)
  · have := J.no
    unfold PySem.W.notCls at this
    rw [e] at this
    exact Bool.noConfusion this
  · have I' : Inv X pins σ H ⟨h', g0, d0, t0, os0⟩ := I.kept k
    have KX' := I'.kIn
    cases hc : PySem.W.clsIn X.K C with
    | none => unfold PySem.W.ks_superIn at hm; rw [hc] at hm; cases hm
    | some cd =>
      unfold PySem.W.ks_superIn at hm
      rw [hc] at hm
      obtain ⟨of, hof, hofc⟩ : ∃ of, h'.get? g = some of ∧ of.cls = .type "function" := by
        have ht' : (X.K.lookup g).map (·.cls) = some (.type "function") := ht
        cases z : X.K.lookup g with
        | none => rw [z] at ht'; cases ht'
        | some of => rw [z] at ht'; exact ⟨of, KX' _ _ z, Option.some.inj ht'⟩
      refine ks_wpAny_getMethod_super e (PySem.W.looks_opaque KX' S.any) (l₀ := cd.mro) ?_ rfl KX' hm hof hofc (PySem.W.ks_ne KX J hc) hn ?_
      · exact fun A Q E s k q => wpAny_bind ((PySem.W.looks_clsIn KX' hc) A _ E s k (wpAny_pure q))
      · refine h h'.objs.size _ (I'.hok.fresh (Nat.le_refl _)) ?_
        exact I'.laid (t' := t0 + 1) (a := h'.objs.size) (o := .met g x) (fun b u z => Heap.get?_push_of_some _ z) (Nat.le_refl _)
          (show (h'.push (PySem.W.methodObj (.ref g) (.ref x))).get? h'.objs.size = some (PySem.W.methodObj (.ref g) (.ref x)) from Heap.get?_push_size h' rfl)
end
end SU

end
section
set_option maxHeartbeats 4000000
namespace SU
open PySem PySem.Spec PyProof.Rows L2 NdefX
section
variable {X : Cx} {b : List Stmt} {CX : CXT}
/-- an expression, an argument list, a statement, a block, at the code of the def whose body is b -/
structure PEA (X : Cx) (b : List Stmt) (e : Expr) (t : TE) : Prop where
  run : ∀ (pins : List (Addr × Obj)) (s : Shared) (σ : L2.St) (H : Hp) (Q : VK), Inv X pins σ H s → t σ H Q → _root_.PySem.wpAt (model X.prog X.w) X.A (.func b X.env) (eval e X.env) (EP X pins σ Q) X.xe s
structure PAA (X : Cx) (b : List Stmt) (es : List Expr) (t : TA) : Prop where
  run : ∀ (pos : Pos) (pins : List (Addr × Obj)) (s : Shared) (σ : L2.St) (H : Hp) (Q : List V → Hp → Prop), Inv X pins σ H s → t σ H Q → _root_.PySem.wpAt (model X.prog X.w) X.A (.func b X.env) (spliced (backTo pos (starEach es X.env))) (AP X pins σ Q) X.xe s
structure PSA (X : Cx) (b : List Stmt) (st : Stmt) (t : TS) : Prop where
  run : ∀ (pins : List (Addr × Obj)) (s : Shared) (σ : L2.St) (H : Hp) (D : Ends), Inv X pins σ H s → t D σ H → _root_.PySem.wpAt (model X.prog X.w) X.A (.func b X.env) (exec st X.env) (SP X pins D) X.xe s
structure PSAs (X : Cx) (b : List Stmt) (st : List Stmt) (t : TS) : Prop where
  run : ∀ (pins : List (Addr × Obj)) (s : Shared) (σ : L2.St) (H : Hp) (D : Ends), Inv X pins σ H s → t D σ H → _root_.PySem.wpAt (model X.prog X.w) X.A (.func b X.env) (execs st X.env) (SP X pins D) X.xe s
theorem pea_of {e : Expr} {t : TE} (h : PE X e t) : PEA X b e t := ⟨fun pins s σ H Q I q => wpAt_of_wpAny (h.run pins s σ H Q I q)⟩
theorem paa_of {es : List Expr} {t : TA} (h : PA X es t) : PAA X b es t := ⟨fun pos pins s σ H Q I q => wpAt_of_wpAny (h.run pos pins s σ H Q I q)⟩
theorem psa_of {st : Stmt} {t : TS} (h : PS X st t) : PSA X b st t := ⟨fun pins s σ H D I q => wpAt_of_wpAny (h.run pins s σ H D I q)⟩
theorem psas_of {st : List Stmt} {t : TS} (h : PSs X st t) : PSAs X b st t := ⟨fun pins s σ H D I q => wpAt_of_wpAny (h.run pins s σ H D I q)⟩
theorem psas_cons {st : Stmt} {rest : List Stmt} {t u : TS} (h1 : PSA X b st t) (h2 : PSAs X b rest u) : PSAs X b (st :: rest) (tSeq t u) := by
  refine ⟨fun pins s σ H D I h => ?_⟩
  refine ks_wpAt_execs_cons (ks_wpAt_mono (h1.run pins s σ H { D with nx := u D } I h) (fun f s1 q => ?_) fun _ _ z => z)
  cases f with
  | next =>
    obtain ⟨σ', H', I', q⟩ := q
    exact h2.run pins s1 σ' H' D I' q
  | ret v => exact q
  | brk => exact q
  | cont => exact q
theorem psas_one {st : Stmt} {t : TS} (h1 : PSA X b st t) : PSAs X b [st] t := by
  have h := psas_cons h1 (psas_of (b := b) pss_nil)
  exact ⟨fun pins s σ H D I q => h.run pins s σ H D I q⟩
theorem psa_expr {e : Expr} {te : TE} {pos : Pos} (he : PEA X b e te) (hs : swapsWith e none pos.line X.env = pure false := by rfl) : PSA X b (.Expr e pos) (tDrop te) :=
  ⟨fun pins s σ H D I h => ks_wpAt_Expr_any (ks_wpAt_mono (he.run pins s σ H _ I h) (fun v s1 ⟨x, H1, I1, r1, q1⟩ => ⟨σ, H1, I1, q1⟩) fun _ _ z => z) I.quiet hs⟩
theorem psa_ret {e : Expr} {te : TE} {pos : Pos} (he : PEA X b e te) : PSA X b (.Return (some e) pos) (tRet te) :=
  ⟨fun pins s σ H D I h => ks_wpAt_Return_some (ks_wpAt_mono (he.run pins s σ H _ I h) (fun v s1 ⟨x, H1, I1, r1, q1⟩ => ⟨x, σ, H1, I1, r1, q1⟩) fun _ _ z => z)⟩
/-- the call node whose receiver is super() -/
theorem sup_node {name : Str} {p0 p1 apos pos : Pos} {args : List Expr} {kws : List Keyword} {pl : Sem Bool} {Q : Value → Shared → Prop} {E : Value → Shared → Prop} {A : Around} {M : Model} {c : Code} {env : Env} {s : Shared}
    (h : _root_.PySem.wpAt M A c (attributeBase (.Call (.Name "super" p0) [] [] p1) name env (eval (.Call (.Name "super" p0) [] [] p1) env)) (fun ov s₁ => wpAny M A (getMethod ov name pl) (fun fx s₂ => wpAny M A (callWith pos fx.1 fx.2 (backTo pos (starEach args env)) (backToKw pos (keywordEach kws env))) Q E s₂) E s₁) E s)
    (he : eval (.Call (.Attribute (.Call (.Name "super" p0) [] [] p1) name apos) args kws pos) env = (do
      let ov ← attributeBase (.Call (.Name "super" p0) [] [] p1) name env (eval (.Call (.Name "super" p0) [] [] p1) env)
      standAt apos.atName
      let (f, first) ← holding [ov] (getMethod ov name pl)
      callWith pos f first (backTo pos (starEach args env)) (backToKw pos (keywordEach kws env))) := by rfl) :
    _root_.PySem.wpAt M A c (eval (.Call (.Attribute (.Call (.Name "super" p0) [] [] p1) name apos) args kws pos) env) Q E s := by
  rw [he]
  refine _root_.PySem.wpAt_bind (ks_wpAt_mono h (fun ov s₁ h₁ => wpAt_of_wpAny (wpAny_bind (wpAny_standAt (wpAny_bind (wpAny_holding (wpAny_mono h₁ (fun fx s₂ h₂ => ?_) fun _ _ x => x)))))) fun _ _ x => x)
  exact h₂
/-- of the class C of self, seen from D: super().m is g -/
structure SupM (X : Cx) (D C : Addr) (m : Str) (g : Addr) : Prop where
  sub : PySem.W.mroIn X.K C (.ref D) = some true
  at_ : PySem.W.ks_superIn X.K C D m = some (some (.ref g))
  ty : PySem.W.typeIn X.K (.ref g) = some (.type "function")
  fi : PySem.W.fnIn X.K g = true
  nc : (m == ("__class__" : Str)) = false
def tSup (C g : Addr) (sp : Sp) (dvs : List V) (E : L2.St → XK) (i0 : Nat) (ta : TA) : TE := fun σ H Q => ∃ x dx fs, σ[i0]? = some (some (.ref x)) ∧ H x = some (.ins C dx fs) ∧
  ∀ q, H q = none → ta σ (upd H q (.met g x)) fun vs H1 => H1 q = some (.met g x) ∧ sp (.ref x :: (vs ++ dvs)) H1 Q (E σ)
def tSupK (C g : Addr) (n k : Nat) (sp : Sp) (gV : List V → List V → List V) (E : L2.St → XK) (i0 : Nat) (ta tk : TA) : TE := fun σ H Q => ∃ x dx fs, σ[i0]? = some (some (.ref x)) ∧ H x = some (.ins C dx fs) ∧
  ∀ q, H q = none → ta σ (upd H q (.met g x)) fun vs H1 => tk σ H1 fun zs H2 => H2 q = some (.met g x) ∧ vs.length = n ∧ zs.length = k ∧ sp (gV (.ref x :: vs) zs) H2 Q (E σ)
variable {D C g : Addr} {x0 m : Str} {i0 k : Nat} {p0 p1 apos pos : Pos} {fd : FuncData} {ps ks : List Str} {sp : Sp} {ds : List Value} {dvs : List V} {E : L2.St → XK}
theorem run_met {pins : List (Addr × Obj)} {σ : L2.St} {H : Hp} {s : Shared} {q x : Addr} {Q : VK} {us : List Value} {vs : List V} (F : FnOk X.prog X.w X.K X.mg X.base CX k g fd ps sp) (hr : Room k X.A) (hb : Binds X.K fd ps ds) (hd : Vals dvs ds) (hx : PassesAt CX X σ (E σ))
    (I : Inv X pins σ H s) (hq : H q = some (.met g x)) (r : Vals vs us) (h : sp (.ref x :: (vs ++ dvs)) H Q (E σ)) : wpAny (model X.prog X.w) X.A (call (.ref q) us) (EP X pins σ Q) X.xe s := by
  have r2 : Vals (.ref x :: (vs ++ dvs)) (.ref x :: us ++ ds) := .cons rfl (r.append hd)
  have hl : (.ref x :: us ++ ds).length = ps.length := by rw [← r2.length]; exact F.len _ _ _ _ h
  refine wpAny_call (call_met I hq (codeAny_mono (F.run X.A X.stack s H ⟨.ref x :: us, []⟩ (.ref x :: us ++ ds) (.ref x :: (vs ++ dvs)) Q (E σ) hr I.env0 (hb s (.ref x :: us) I.kIn hl) r2 h) fun r s' hq => ?_))
  cases r with
  | error e => exact hx pins H s e s' I hq
  | ok fl =>
    cases fl with
    | ret u => exact I.after hq
    | next => exact False.elim hq
    | brk => exact False.elim hq
    | cont => exact False.elim hq
theorem run_metK {n : Nat} {gg : List Value → List Value → List Value} {gV : List V → List V → List V} {pins : List (Addr × Obj)} {σ : L2.St} {H : Hp} {s : Shared} {q x : Addr} {Q : VK} {us ws : List Value} {vs zs : List V} (F : FnOk X.prog X.w X.K X.mg X.base CX k g fd ps sp) (hr : Room k X.A) (hb : KBn X.K fd ps (n + 1) ks gg gV) (hx : PassesAt CX X σ (E σ))
    (I : Inv X pins σ H s) (hq : H q = some (.met g x)) (r : Vals vs us) (rz : Vals zs ws) (l1 : vs.length = n) (l2 : zs.length = ks.length) (h : sp (gV (.ref x :: vs) zs) H Q (E σ)) : wpAny (model X.prog X.w) X.A (call (.ref q) us (ks.zip ws)) (EP X pins σ Q) X.xe s := by
  have r1 : Vals (V.ref x :: vs) (Value.ref x :: us) := .cons rfl r
  have r2 := hb.rel r1 rz
  refine wpAny_call (call_met I hq (codeAny_mono (F.run X.A X.stack s H ⟨.ref x :: us, ks.zip ws⟩ (gg (.ref x :: us) ws) (gV (.ref x :: vs) zs) Q (E σ) hr I.env0 (hb.to s (.ref x :: us) ws I.kIn (by rw [List.length_cons, ← r.length, l1]) (rz.length.symm.trans l2)) r2 h) fun r s' hq => ?_))
  cases r with
  | error e => exact hx pins H s e s' I hq
  | ok fl =>
    cases fl with
    | ret u => exact I.after hq
    | next => exact False.elim hq
    | brk => exact False.elim hq
    | cont => exact False.elim hq
theorem pea_sup0 (S : SupX X D x0) (M : SupM X D C m g) (hN : X.N[i0]? = some x0) (F : FnOk X.prog X.w X.K X.mg X.base CX k g fd ps sp) (hr : Room k X.A) (hb : Binds X.K fd ps ds) (hd : Vals dvs ds) (hx : ∀ σ, PassesAt CX X σ (E σ))
    {pl : Sem Bool} (hev : eval (.Call (.Attribute (.Call (.Name "super" p0) [] [] p1) m apos) [] [] pos) X.env = (do
      let ov ← attributeBase (.Call (.Name "super" p0) [] [] p1) m X.env (eval (.Call (.Name "super" p0) [] [] p1) X.env)
      standAt apos.atName
      let (f, first) ← holding [ov] (getMethod ov m pl)
      callWith pos f first (backTo pos (starEach [] X.env)) (backToKw pos (keywordEach [] X.env))) := by rfl) :
    PEA X b (.Call (.Attribute (.Call (.Name "super" p0) [] [] p1) m apos) [] [] pos) (tSup C g sp dvs E i0 tNil) := by
  refine ⟨fun pins s σ H Q I h => ?_⟩
  obtain ⟨x, dx, fs, e1, e2, h⟩ := h
  refine sup_node (super_get S hN I e1 e2 M.sub M.at_ M.ty M.nc fun q s1 hq I1 => ?_) hev
  obtain ⟨q1, q2⟩ := h q hq
  exact callwith_met (X := X) (a := x) (g := g) rfl M.fi (evalArgs_nil3 ⟨met_P I1 q1, run_met F hr hb hd (hx σ) I1 q1 .nil q2⟩)
theorem pea_sup {e : Expr} {es : List Expr} {t : TA} (S : SupX X D x0) (M : SupM X D C m g) (hN : X.N[i0]? = some x0) (F : FnOk X.prog X.w X.K X.mg X.base CX k g fd ps sp) (hr : Room k X.A) (hb : Binds X.K fd ps ds) (hd : Vals dvs ds) (hx : ∀ σ, PassesAt CX X σ (E σ))
    (ha : PA X (e :: es) t) (he : starEach (e :: es) X.env = (false, eval e X.env) :: starEach es X.env := by rfl) (hpl : (backTo pos (starEach es X.env)).any (·.1) = false := by rfl)
    {pl : Sem Bool} (hev : eval (.Call (.Attribute (.Call (.Name "super" p0) [] [] p1) m apos) (e :: es) [] pos) X.env = (do
      let ov ← attributeBase (.Call (.Name "super" p0) [] [] p1) m X.env (eval (.Call (.Name "super" p0) [] [] p1) X.env)
      standAt apos.atName
      let (f, first) ← holding [ov] (getMethod ov m pl)
      callWith pos f first (backTo pos (starEach (e :: es) X.env)) (backToKw pos (keywordEach [] X.env))) := by rfl) :
    PEA X b (.Call (.Attribute (.Call (.Name "super" p0) [] [] p1) m apos) (e :: es) [] pos) (tSup C g sp dvs E i0 t) := by
  refine ⟨fun pins s σ H Q I h => ?_⟩
  obtain ⟨x, dx, fs, e1, e2, h⟩ := h
  refine sup_node (super_get S hN I e1 e2 M.sub M.at_ M.ty M.nc fun q s1 hq I1 => ?_) hev
  refine callwith_met (X := X) (a := x) (g := g) (by rw [he]; show (false || (backTo pos (starEach es X.env)).any (·.1) || false) = false; rw [hpl]; rfl) M.fi ?_
  have key := ha.run pos pins s1 σ _ _ I1 (h q hq)
  rw [he] at key ⊢
  exact Calls.evalArgs_plain (thn key fun us s2 ⟨vs, H2, I2, r2, q1, q2⟩ => ⟨met_P I2 q1, run_met F hr hb hd (hx σ) I2 q1 r2 q2⟩)
theorem pea_supK {e : Expr} {es : List Expr} {kws : List Keyword} {t tk : TA} {n : Nat} {gg : List Value → List Value → List Value} {gV : List V → List V → List V} (S : SupX X D x0) (M : SupM X D C m g) (hN : X.N[i0]? = some x0) (F : FnOk X.prog X.w X.K X.mg X.base CX k g fd ps sp) (hr : Room k X.A) (hb : KBn X.K fd ps (n + 1) ks gg gV) (hx : ∀ σ, PassesAt CX X σ (E σ))
    (ha : PA X (e :: es) t) (hkw : PK X kws tk) (hall : (backToKw pos (keywordEach kws X.env)).all (·.1.isSome) = true := by rfl) (hks : (backToKw pos (keywordEach kws X.env)).filterMap (·.1) = ks := by rfl)
    (he : starEach (e :: es) X.env = (false, eval e X.env) :: starEach es X.env := by rfl)
    (hpl : ((backTo pos (starEach (e :: es) X.env)).any (·.1) || (backToKw pos (keywordEach kws X.env)).any (·.1.isNone)) = false := by rfl)
    {pl : Sem Bool} (hev : eval (.Call (.Attribute (.Call (.Name "super" p0) [] [] p1) m apos) (e :: es) kws pos) X.env = (do
      let ov ← attributeBase (.Call (.Name "super" p0) [] [] p1) m X.env (eval (.Call (.Name "super" p0) [] [] p1) X.env)
      standAt apos.atName
      let (f, first) ← holding [ov] (getMethod ov m pl)
      callWith pos f first (backTo pos (starEach (e :: es) X.env)) (backToKw pos (keywordEach kws X.env))) := by rfl) :
    PEA X b (.Call (.Attribute (.Call (.Name "super" p0) [] [] p1) m apos) (e :: es) kws pos) (tSupK C g n ks.length sp gV E i0 t tk) := by
  refine ⟨fun pins s σ H Q I h => ?_⟩
  obtain ⟨x, dx, fs, e1, e2, h⟩ := h
  refine sup_node (super_get S hN I e1 e2 M.sub M.at_ M.ty M.nc fun q s1 hq I1 => ?_) hev
  refine callwith_met (X := X) (a := x) (g := g) hpl M.fi (evalArgs_kw2 hall (thn (ha.run pos pins s1 σ _ _ I1 (h q hq)) fun us s2 ⟨vs, H1, I2, r, q1⟩ => ?_) he)
  refine thn (hkw.run pos pins s2 σ H1 _ I2 q1) fun ws s3 ⟨zs, H2, I3, rz, z1, l1, l2, q2⟩ => ⟨met_P I3 z1, ?_⟩
  rw [hks]
  exact run_metK F hr hb (hx σ) I3 z1 r rz l1 l2 q2
end
end SU

end
section
set_option maxHeartbeats 4000000
namespace SU
open PySem PySem.Spec PyProof.Rows L2 NdefX He
/-- a def as it stands behind the top, with the one cell __class__ (of the class at D) -/
structure FunS (K : PySem.W.Frag) (x qual : Str) (params : Arguments) (body : List Stmt) (scope : Scope) (dvs : List V) (kws : List (Str × V)) (file : Str) (D f cc cda : Addr) (fd : FuncData) : Prop where
  ex : ∃ (oc : Value) (od : Option Addr) (dV kV doc pm : Value) (an : Option Addr) (ct : Value) (osl : Array (Option Value)),
    fd = PySem.W.ksFn x qual params body scope dV kV doc pm an (.ref cda) ct cc ∧ K.lookup f = some ⟨oc, od, .func fd, osl⟩ ∧ PySem.W.codeIn K (.ref cda) qual = true ∧ DflV K dV dvs ∧ KwdV K kV kws
  kp : PySem.W.keepIn K (.ref f) = true
  code : ∃ (ccl : Value) (cdd : Option Addr) (vs : Array Value) (ccs : Array (Option Value)) (tf : Tok), K.lookup cda = some ⟨ccl, cdd, .fields vs, ccs⟩ ∧ vs[2]? = some (.str file tf)
  cell : ∃ (cl : Value) (cld : Option Addr) (csl : Array (Option Value)), K.lookup cc = some ⟨cl, cld, .cell (some (.ref D)), csl⟩
  cls : ∃ cdD : ClassData, PySem.W.clsIn K D = some cdD
/-- its words, as a nested def's -/
def nf (x qual : Str) (params : Arguments) (body : List Stmt) (scope : Scope) (cc cda : Addr) : NF := ⟨x, qual, params, body, scope, [("__class__", cc)], cda⟩
section
variable {CX : CXT} {P : Program} {w : World} {K : PySem.W.Frag} {mg : Str → Option Value} {base : Heap} {x qual : Str} {params : Arguments} {body : List Stmt} {scope : Scope} {dvs : List V} {kws : List (Str × V)} {file : Str} {D f cc cda : Addr} {fd : FuncData} {N ps : List Str} {k : Nat} {sp : Sp}
theorem code_ref {K : PySem.W.Frag} {c : Addr} {q : Str} {h : Heap} (X : K.In h) (e : PySem.W.codeIn K (.ref c) q = true) : h.CodeRec (.ref c) q := PySem.W.codeRec_of X e
/-- THE RULE: such a def by its body, walked at its own code -/
theorem fn_ofS (F : FunS K x qual params body scope dvs kws file D f cc cda fd) (S : NScope N ps ["__class__"] scope) (len : ∀ vs H Q E, sp vs H Q E → vs.length = ps.length)
    (hbody : ∀ (A : Around) (outer : List Env) (s : Shared) (H : Hp) (vs : List V) (Q : VK) (E : XK), Room k (A.deeper (envF (nf x qual params body scope cc cda) f s.heap.objs.size)) → sp vs H Q E →
      ∃ t, PSAs (ncx CX P w K mg base N (nf x qual params body scope cc cda) f A outer s H E) body body t ∧ t { nx := fun _ H' => Q .non H', rt := Q } (startF N vs [some (.ref D)]) H) :
    FnOk P w K mg base CX (k + 1) f fd ps sp := by
  obtain ⟨oc, od, dV, kV, doc, pm, an, ct, osl, rfl, lk, hcd, hD, hK⟩ := F.ex
  obtain ⟨cl, cld, csl, hcell⟩ := F.cell
  refine ⟨len, fun A outer s H args us vs Q E hr e0 hb r hsp => ?_⟩
  have hl := len _ _ _ _ hsp
  have KX : K.In s.heap := e0.mod.kin.keeps fun b o e => (e0.bs b o e).1
  have lim : s.heap.NoLimit := e0.mod.nolimit.keeps fun b o e => (e0.bs b o e).1
  have C : CellsAt (nf x qual params body scope cc cda).cl ["__class__"] [some (.ref D)] s.heap H := by
    have hc0 := (e0.bs _ _ (e0.mod.kin _ _ hcell))
    have one : ∀ y c, (nf x qual params body scope cc cda).cl.lookup y = some c → y = "__class__" ∧ c = cc := by
      intro y c e
      have e' : (match y == ("__class__" : Str) with | true => some cc | false => none) = some c := by
        have e2 : List.lookup y [(("__class__" : Str), cc)] = some c := e
        rw [List.lookup_cons] at e2
        exact e2
      cases q : (y == ("__class__" : Str)) with
      | true =>
        rw [q] at e'
        exact ⟨eq_of_beq q, (Option.some.inj e').symm⟩
      | false =>
        rw [q] at e'
        cases e'
    refine ⟨rfl, fun y c e => ?_, fun y z c e1 e2 => (one y c e1).1.trans (one z c e2).1.symm, fun i y e => ?_⟩
    · obtain ⟨_, rfl⟩ := one y c e
      exact ⟨hc0.2, _, _, hc0.1, rfl⟩
    · cases i with
      | zero =>
        have ey : y = "__class__" := (Option.some.inj e).symm
        subst ey
        refine ⟨cc, rfl, fun v e2 => ?_⟩
        have ev : v = .ref D := by
          have := Option.some.inj (Option.some.inj e2)
          exact this.symm
        subst ev
        exact ⟨.ref D, rfl, _, hc0.1, rfl⟩
      | succ i => cases e
  refine codeAny_call_function hr.depth (KX _ _ lk) rfl S.co S.gen rfl (PySem.W.codeRec_of KX hcd) (hb _ _ _ _ ?_)
  refine wpAny_newFunctionEnv S.nocell (fun ⟨n, _⟩ hy => S.par n (List.of_mem_zip hy).1) (fun h₁ hns hsb => ⟨lim.fresh _ hsb, ?_⟩) S.kind
  have kp : ∀ b o, s.heap.get? b = some o → h₁.get? b = some o := fun b o e => hsb.extBut b o (Nat.ne_of_lt (Heap.lt_size e)) (Heap.get?_push_of_some _ e)
  obtain ⟨t, ht, hq⟩ := hbody A outer s H vs Q E (hr.deeper _) hsp
  have I : Inv (ncx CX P w K mg base N (nf x qual params body scope cc cda) f A outer s H E) [] (startF N vs [some (.ref D)]) H { s with heap := h₁, toks := s.toks + (ps.zip us).length } := inv_startN S hr.hd e0 hl r C hns kp
  show codeAny _ _ (.func body (envF (nf x qual params body scope cc cda) f s.heap.objs.size)) _ _
  refine ks_codeAny_funcAt (ks_wpAt_mono (ht.run [] _ (startF N vs [some (.ref D)]) H _ I hq) (fun fl s' hs => ?_) fun e s' hs => hs)
  have fin : ∀ {σ' : L2.St} {H' : Hp} {v : V} {u : Value}, Inv (ncx CX P w K mg base N (nf x qual params body scope cc cda) f A outer s H E) [] σ' H' s' → L2.RelV v u → Q v H' → CE outer P w H s Q u s' :=
    fun {σ' H' v u} J rv q => ⟨v, H', J.os, J.bare, J.base, J.hok, rv, q⟩
  cases fl with
  | ret u =>
    obtain ⟨v, σ', H', J, rv, q⟩ := hs
    exact fin J rv q
  | next =>
    obtain ⟨σ', H', J, q⟩ := hs
    exact fin (v := V.non) (u := Value.none) J rfl q
  | brk =>
    obtain ⟨_, _, _, q⟩ := hs
    exact False.elim q
  | cont =>
    obtain ⟨_, _, _, q⟩ := hs
    exact False.elim q
/-- what super() asks, in the context of its body -/
theorem FunS.supX {A : Around} {outer : List Env} {s : Shared} {H : Hp} {E : XK} {ar : Arg} (F : FunS K x qual params body scope dvs kws file D f cc cda fd) (ks : scope.names.lookup ("super" : Str) = some .globalImplicit) (kc : scope.names.lookup ("__class__" : Str) = some .free)
    (hp : (params.posonlyargs ++ params.args).head? = some ar) (k0 : scope.names.lookup ar.arg = some .local) (hf : ((P.main.file : Str) == file) = true) (top : (P.main.scope.names.lookup ("super" : Str)).isSome = false) (mgs : mg "super" = none)
    (any : PySem.W.nsIn K cStatics "thirdparty.any" = some none) : SupX (ncx CX P w K mg base N (nf x qual params body scope cc cda) f A outer s H E) D ar.arg := by
  obtain ⟨oc, od, dV, kV, doc, pm, an, ct, osl, rfl, lk, hcd, hD, hK⟩ := F.ex
  obtain ⟨ccl, cdd, vs, ccs, tf, h1, h2⟩ := F.code
  obtain ⟨cl, cld, csl, hcell⟩ := F.cell
  exact ⟨ks, kc, k0, ⟨f, oc, od, _, osl, ar, rfl, lk, hp, rfl⟩, ⟨cda, ccl, cdd, vs, ccs, file, tf, rfl, h1, h2, hf⟩, ⟨cc, cl, cld, csl, rfl, hcell⟩, F.cls, top, mgs, any⟩
end
end SU

end
section
set_option maxHeartbeats 4000000
namespace SU
open PySem PySem.Spec PyProof.Rows L2 NdefX He
abbrev FnSW : Type := Option (Str × Str × Arguments × FuncBody × Scope × Addr × List Str × Addr)
def fnSW (K : PySem.W.Frag) (a : Addr) : FnSW := match K.lookup a with
  | some ⟨_, _, .func fd, _⟩ => some (fd.name, fd.qualname, fd.params, fd.body, fd.scope, fd.globals, fd.closure.map (·.1), fd.builtins)
  | _ => none
def ccOf (K : PySem.W.Frag) (a : Addr) : Addr := match K.lookup a with
  | some ⟨_, _, .func fd, _⟩ => (match fd.closure with
    | [(_, c)] => c
    | _ => 0)
  | _ => 0
def cdaOf (K : PySem.W.Frag) (a : Addr) : Addr := match K.lookup a with
  | some ⟨_, _, .func fd, _⟩ => (match fd.code with
    | .ref c => c
    | _ => 0)
  | _ => 0
structure SDef where
  ad : PySem.W.Frag → Addr
  name : Str
  qual : Str
  params : Arguments
  body : List Stmt
  scope : Scope
  cls : Str
  file : Str
  dfl : List Dv := []
  kwd : List (Str × Dv) := []
def SDef.val (d : SDef) : FnSW := some (d.name, d.qual, d.params, .stmts d.body, d.scope, mainGlobals, ["__class__"], builtinsNs)
def SDef.dvs (K : PySem.W.Frag) (d : SDef) : List V := d.dfl.map (Dv.v K)
def SDef.kws (K : PySem.W.Frag) (d : SDef) : List (Str × V) := d.kwd.map fun q => (q.1, q.2.v K)
def cellB (K : PySem.W.Frag) (c : Addr) (D : Addr) : Bool := match K.lookup c with
  | some ⟨_, _, .cell (some (.ref d)), _⟩ => decide (d = D)
  | _ => false
def fileB (K : PySem.W.Frag) (c : Addr) (f : Str) : Bool := match K.lookup c with
  | some ⟨_, _, .fields vs, _⟩ => (match (vs[2]? : Option Value) with
    | some (Value.str g _) => decide (g = f)
    | _ => false)
  | _ => false
def codeB (K : PySem.W.Frag) (a : Addr) (q : Str) (dvs : List V) (kws : List (Str × V)) : Bool := match K.lookup a with
  | some ⟨_, _, .func fd, _⟩ => decide (fd.code = .ref (cdaOf K a)) && (PySem.W.codeIn K fd.code q && (dflB K fd.defaults dvs && kwdB K fd.kwdefaults kws))
  | _ => false
def SDef.ok (K : PySem.W.Frag) (d : SDef) : Bool := PySem.W.keepIn K (.ref (d.ad K)) && (codeB K (d.ad K) d.qual (d.dvs K) (d.kws K) && (cellB K (ccOf K (d.ad K)) (ga K d.cls) && (fileB K (cdaOf K (d.ad K)) d.file && (PySem.W.clsIn K (ga K d.cls)).isSome)))
theorem cellB_ok {K : PySem.W.Frag} {c D : Addr} (h : cellB K c D = true) : ∃ (cl : Value) (cld : Option Addr) (csl : Array (Option Value)), K.lookup c = some ⟨cl, cld, .cell (some (.ref D)), csl⟩ := by
  unfold cellB at h
  split at h
  · rename_i cl cld d csl e
    have := of_decide_eq_true h
    subst this
    exact ⟨cl, cld, csl, e⟩
  · cases h
theorem fileB_ok {K : PySem.W.Frag} {c : Addr} {f : Str} (h : fileB K c f = true) : ∃ (ccl : Value) (cdd : Option Addr) (vs : Array Value) (ccs : Array (Option Value)) (tf : Tok), K.lookup c = some ⟨ccl, cdd, .fields vs, ccs⟩ ∧ vs[2]? = some (.str f tf) := by
  unfold fileB at h
  split at h
  · rename_i ccl cdd vs ccs e
    split at h
    · rename_i g tf e2
      have := of_decide_eq_true h
      subst this
      exact ⟨ccl, cdd, vs, ccs, tf, e, e2⟩
    · cases h
  · cases h
theorem SDef.funS {K : PySem.W.Frag} {d : SDef} (e : fnSW K (d.ad K) = d.val) (c : d.ok K = true) : ∃ fd, FunS K d.name d.qual d.params d.body d.scope (d.dvs K) (d.kws K) d.file (ga K d.cls) (d.ad K) (ccOf K (d.ad K)) (cdaOf K (d.ad K)) fd := by
  obtain ⟨kp, c2⟩ := ba c
  obtain ⟨c3, c4⟩ := ba c2
  obtain ⟨c5, c6⟩ := ba c4
  obtain ⟨c7, c8⟩ := ba c6
  unfold fnSW at e
  unfold codeB at c3
  cases q : K.lookup (d.ad K) with
  | none =>
    rw [q] at c3
    cases c3
  | some o =>
    obtain ⟨oc, od, dt, osl⟩ := o
    rw [q] at c3 e
    cases dt with
    | func fd =>
      obtain ⟨n1, n2, n3, n4, n5, n6, n7, n8, n9, n10, n11, n12, n13, n14, n15⟩ := fd
      have e2 : (some (n1, n2, n3, n4, n5, n6, n7.map (fun z => z.1), n15) : FnSW) = (some (d.name, d.qual, d.params, FuncBody.stmts d.body, d.scope, mainGlobals, ["__class__"], builtinsNs) : FnSW) := e
      simp only [Option.some.injEq, Prod.mk.injEq] at e2
      obtain ⟨h1, h2, h3, h4, h5, h6, h7, h8⟩ := e2
      have e7 : n7 = [(("__class__" : Str), ccOf K (d.ad K))] := by
        unfold ccOf
        rw [q]
        cases n7 with
        | nil => cases h7
        | cons y r =>
          cases r with
          | nil =>
            obtain ⟨y1, y2⟩ := y
            have : y1 = ("__class__" : Str) := by
              have z := List.cons.inj h7
              exact z.1
            subst this
            rfl
          | cons z r => 
            have z := List.cons.inj h7
            cases z.2
      subst h1 h2 h3 h4 h5 h6 h8
      have c9 : (decide (n13 = .ref (cdaOf K (d.ad K))) && (PySem.W.codeIn K n13 d.qual && (dflB K n8 (d.dvs K) && kwdB K n9 (d.kws K)))) = true := c3
      obtain ⟨k0, k1⟩ := ba c9
      obtain ⟨k1, k2⟩ := ba k1
      obtain ⟨k3, k4⟩ := ba k2
      have k0 := of_decide_eq_true k0
      rw [k0] at k1
      rw [e7, k0] at q
      have hs : ∃ cdD : ClassData, PySem.W.clsIn K (ga K d.cls) = some cdD := Option.isSome_iff_exists.mp c8
      exact ⟨_, ⟨oc, od, n8, n9, n10, n11, n12, n14, osl, rfl, q, k1, dflB_ok k3, kwdB_ok k4⟩, kp, fileB_ok c7, cellB_ok c5, hs⟩
    | _ => cases c3
structure ADef where
  ad : PySem.W.Frag → Addr
  name : Str
  qual : Str
  params : Arguments
  body : List Stmt
  scope : Scope
  dfl : List Dv := []
  kwd : List (Str × Dv) := []
def fnAW (K : PySem.W.Frag) (a : Addr) : FnW := match K.lookup a with
  | some ⟨_, _, .func fd, _⟩ => some (fd.name, fd.qualname, fd.params, fd.body, fd.scope, fd.globals, fd.closure, fd.builtins)
  | _ => none
def ADef.val (d : ADef) : FnW := some (d.name, d.qual, d.params, .stmts d.body, d.scope, mainGlobals, [], builtinsNs)
def ADef.dvs (K : PySem.W.Frag) (d : ADef) : List V := d.dfl.map (Dv.v K)
def ADef.kws (K : PySem.W.Frag) (d : ADef) : List (Str × V) := d.kwd.map fun q => (q.1, q.2.v K)
def ADef.ok (K : PySem.W.Frag) (d : ADef) : Bool := PySem.W.keepIn K (.ref (d.ad K)) && (match K.lookup (d.ad K) with
  | some ⟨_, _, .func fd, _⟩ => PySem.W.codeIn K fd.code d.qual && (dflB K fd.defaults (d.dvs K) && kwdB K fd.kwdefaults (d.kws K))
  | _ => false)
theorem ADef.funD {K : PySem.W.Frag} {d : ADef} (e : fnAW K (d.ad K) = d.val) (c : d.ok K = true) : ∃ fd, FunD K d.name d.qual d.params d.body d.scope (d.dvs K) (d.kws K) (d.ad K) fd := by
  obtain ⟨kp, c2⟩ := ba c
  unfold fnAW at e
  cases q : K.lookup (d.ad K) with
  | none =>
    rw [q] at c2
    cases c2
  | some o =>
    obtain ⟨oc, od, dt, osl⟩ := o
    rw [q] at c2 e
    cases dt with
    | func fd =>
      obtain ⟨n1, n2, n3, n4, n5, n6, n7, n8, n9, n10, n11, n12, n13, n14, n15⟩ := fd
      have e2 : (some (n1, n2, n3, n4, n5, n6, n7, n15) : FnW) = (some (d.name, d.qual, d.params, FuncBody.stmts d.body, d.scope, mainGlobals, [], builtinsNs) : FnW) := e
      simp only [Option.some.injEq, Prod.mk.injEq] at e2
      obtain ⟨h1, h2, h3, h4, h5, h6, h7, h8⟩ := e2
      subst h1 h2 h3 h4 h5 h6 h7 h8
      have c3 : (PySem.W.codeIn K n13 d.qual && (dflB K n8 (d.dvs K) && kwdB K n9 (d.kws K))) = true := c2
      obtain ⟨k1, k2⟩ := ba c3
      obtain ⟨k3, k4⟩ := ba k2
      exact ⟨_, ⟨oc, od, n8, n9, n10, n11, n12, n13, n14, osl, rfl, q, k1, dflB_ok k3, kwdB_ok k4⟩, kp⟩
    | _ => cases c2
/-- the getter of the property f of the class at C -/
def getterOf (K : PySem.W.Frag) (C : Addr) (f : Str) : Addr := match PySem.W.recIn K (ma K C f) "property" with
  | some (.ref g :: _) => g
  | _ => 0
def propB (K : PySem.W.Frag) (C : Addr) (f : Str) : Bool := eqO (PySem.W.findIn K (.ref C) f) (some (some (.ref (ma K C f)))) && (eqO (PySem.W.specialIn K (.ref (ma K C f)) "__get__") (some (some (.builtin "property.__get__"))) &&
  (decide (PySem.W.takesIn K (.ref (ma K C f)) = some true) && (match PySem.W.recIn K (ma K C f) "property" with
    | some (.ref g :: _) => true
    | _ => false)))
theorem propB_ok {K : PySem.W.Frag} {C : Addr} {f : Str} (h : propB K C f = true) : PropOf K C f (ma K C f) (getterOf K C f) := by
  obtain ⟨h1, h⟩ := ba h
  obtain ⟨h2, h⟩ := ba h
  obtain ⟨h3, h4⟩ := ba h
  refine ⟨eqO_ok h1, eqO_ok h2, of_decide_eq_true h3, ?_⟩
  unfold getterOf
  split at h4
  · rename_i g r e
    rw [e]
    exact ⟨r, rfl⟩
  · cases h4
/-- what is looked at: what the globals name, and the statics -/
def asS (g : Addr → Option Obj) (n : Nat) : List Addr := asD g n ++ [cStatics]
structure Looks3 where
  fa : List Fa
  fn : List DefD
  sd : List SDef
  ds : List ADef
  bs : PySem.W.Frag → Bool
abbrev AlS : Type := AlD × (Bool × (List FnSW × List FnW))
def Looks3.see (L : Looks3) (K : PySem.W.Frag) : AlS :=
  (obsD L.fa L.fn K, ((L.sd.all fun d => d.ok K) && ((L.ds.all fun d => d.ok K) && L.bs K), (L.sd.map fun d => fnSW K (d.ad K), L.ds.map fun d => fnAW K (d.ad K))))
def Looks3.val (L : Looks3) : AlS := (valD L.fn, (true, (L.sd.map SDef.val, L.ds.map ADef.val)))
def obsS (n : Nat) (L : Looks3) (g : Addr → Option Obj) : AlS := L.see (frG g (asS g n))
def SaysS (L : Looks3) (K : PySem.W.Frag) : Prop := L.see K = L.val
def hookS (n : Nat) (L : Looks3) : PySem.W.Hook where
  α := AlS
  obs := fun s => obsS n L s.heap.get?
  val := fun _ => L.val
  says := fun _ h => ∃ K : PySem.W.Frag, K.In h ∧ SaysS L K
  of := fun _ _ e => ⟨_, frG_in, e⟩
  keeps := fun _ _ _ ⟨K, hK, c⟩ k => ⟨K, PySem.W.Frag.In.keeps hK k, c⟩
theorem obsS_eq {n : Nat} {L : Looks3} {g : Addr → Option Obj} {s : Shared} (h : ∀ a, g a = s.heap.get? a) : obsS n L g = (hookS n L).obs s := by
  have e : g = s.heap.get? := funext h
  rw [e] <;> rfl
section
variable {L : Looks3} {K : PySem.W.Frag}
theorem SaysS.d (c : SaysS L K) : SaysD L.fa L.fn K := congrArg (fun z : AlS => z.1) c
theorem SaysS.all3 (c : SaysS L K) : ((L.sd.all fun d => d.ok K) = true) ∧ ((L.ds.all fun d => d.ok K) = true) ∧ L.bs K = true := by
  obtain ⟨h1, h2⟩ := ba (show ((L.sd.all fun d => d.ok K) && ((L.ds.all fun d => d.ok K) && L.bs K)) = true from congrArg (fun z : AlS => z.2.1) c)
  obtain ⟨h3, h4⟩ := ba h2
  exact ⟨h1, h3, h4⟩
theorem SaysS.more (c : SaysS L K) : L.bs K = true := c.all3.2.2
theorem SaysS.sup (c : SaysS L K) (i : Nat) {d : SDef} (h : L.sd[i]? = some d := by rfl) : ∃ fd, FunS K d.name d.qual d.params d.body d.scope (d.dvs K) (d.kws K) d.file (ga K d.cls) (d.ad K) (ccOf K (d.ad K)) (cdaOf K (d.ad K)) fd := by
  have c2 : L.sd.map (fun d => fnSW K (d.ad K)) = L.sd.map SDef.val := congrArg (fun z : AlS => z.2.2.1) c
  have c3 := congrArg (fun l : List FnSW => l[i]?) c2
  have c4 : (some (fnSW K (d.ad K)) : Option FnSW) = some d.val := by
    have : (L.sd.map (fun d => fnSW K (d.ad K)))[i]? = (L.sd.map SDef.val)[i]? := c3
    rw [List.getElem?_map, List.getElem?_map, h] at this
    exact this
  exact SDef.funS (Option.some.inj c4) (List.all_eq_true.mp c.all3.1 d (List.mem_of_getElem? h))
theorem SaysS.any (c : SaysS L K) (i : Nat) {d : ADef} (h : L.ds[i]? = some d := by rfl) : ∃ fd, FunD K d.name d.qual d.params d.body d.scope (d.dvs K) (d.kws K) (d.ad K) fd := by
  have c2 : L.ds.map (fun d => fnAW K (d.ad K)) = L.ds.map ADef.val := congrArg (fun z : AlS => z.2.2.2) c
  have c3 := congrArg (fun l : List FnW => l[i]?) c2
  have c4 : (some (fnAW K (d.ad K)) : Option FnW) = some d.val := by
    have : (L.ds.map (fun d => fnAW K (d.ad K)))[i]? = (L.ds.map ADef.val)[i]? := c3
    rw [List.getElem?_map, List.getElem?_map, h] at this
    exact this
  exact ADef.funD (Option.some.inj c4) (List.all_eq_true.mp c.all3.2.1 d (List.mem_of_getElem? h))
end
end SU

end
section
set_option maxHeartbeats 4000000
namespace DL
open PySem PySem.Spec PyProof.Rows L2
section
variable {X : Cx} {CX : CXT} {k n : Nat} {f C : Addr} {fd : FuncData} {ps ks : List Str} {sp : Sp} {dvs : List V} {ds : List Value} {E : L2.St → XK} {x m : Str} {p pos apos : Pos} {e o : Expr} {es : List Expr} {kws : List Keyword} {ta : TE} {t tk : TA} {g : List Value → List Value → List Value} {gV : List V → List V → List V}
/-- o.m(..) of an instance of the class at C -/
def tMethSD (C : Addr) (m : Str) (sp : Sp) (dvs : List V) (E : L2.St → XK) (ta : TE) (t : TA) : TE := fun σ H Q => ta σ H fun x H1 => ∃ a dx fs, x = .ref a ∧ H1 a = some (.ins C dx fs) ∧ fs.lookup m = none ∧
  t σ H1 fun vs H2 => sp (x :: (vs ++ dvs)) H2 Q (E σ)
theorem pe_methSD {pl : Sem Bool} (he : PE X o ta) (c : Cls X.K C) (hm : Meth X.K C m f) (F : FnOk X.prog X.w X.K X.mg X.base CX k f fd ps sp) (hr : Room k X.A) (hb : Binds X.K fd ps ds) (hd : Vals dvs ds) (hx : ∀ σ, PassesAt CX X σ (E σ)) (ha : PA X (e :: es) t)
    (hst : starEach (e :: es) X.env = (false, eval e X.env) :: starEach es X.env := by rfl) (hpl : (backTo pos (starEach es X.env)).any (·.1) = false := by rfl)
    (ht : eval (.Call (.Attribute o m apos) (e :: es) [] pos) X.env = (do
      let ov ← eval o X.env
      standAt apos.atName
      let (f, first) ← holding [ov] (getMethod ov m pl)
      callWith pos f first (backTo pos (starEach (e :: es) X.env)) (backToKw pos (keywordEach [] X.env))) := by rfl) :
    PE X (.Call (.Attribute o m apos) (e :: es) [] pos) (tMethSD C m sp dvs E ta t) := by
  refine ⟨fun pins s σ H Q I h => ?_⟩
  refine PySem.W.methodCall_KW (pl := pl) (thn (he.run pins s σ H _ I h) fun u s1 ⟨x, H1, I1, rx, a, dx, fs, ex, ea, l, q⟩ => ?_) ht
  subst ex
  obtain rfl : u = Value.ref a := rx
  refine getmeth_ok I1 ea c hm l ?_
  refine PySem.W.callWith_K (first := [.ref a]) (h₀ := X.base) I.ok.mod.kin hm.kp (thn (ha.run pos pins s1 σ H1 _ I1 q) fun us s2 ⟨vs, H2, I2, r, q2⟩ => ⟨I2.kIn, ?_⟩) hst hpl
  exact run_fnSD (us := .ref a :: us) (vs := .ref a :: vs) F hr hb hd (hx σ) I2 (.cons rfl r) q2
theorem pe_methSD0 {pl : Sem Bool} (he : PE X o ta) (c : Cls X.K C) (hm : Meth X.K C m f) (F : FnOk X.prog X.w X.K X.mg X.base CX k f fd ps sp) (hr : Room k X.A) (hb : Binds X.K fd ps ds) (hd : Vals dvs ds) (hx : ∀ σ, PassesAt CX X σ (E σ))
    (ht : eval (.Call (.Attribute o m apos) [] [] pos) X.env = (do
      let ov ← eval o X.env
      standAt apos.atName
      let (f, first) ← holding [ov] (getMethod ov m pl)
      callWith pos f first (backTo pos (starEach [] X.env)) (backToKw pos (keywordEach [] X.env))) := by rfl) :
    PE X (.Call (.Attribute o m apos) [] [] pos) (tMethSD C m sp dvs E ta tNil) := by
  refine ⟨fun pins s σ H Q I h => ?_⟩
  refine PySem.W.methodCall_KW (pl := pl) (thn (he.run pins s σ H _ I h) fun u s1 ⟨x, H1, I1, rx, a, dx, fs, ex, ea, l, q⟩ => ?_) ht
  subst ex
  obtain rfl : u = Value.ref a := rx
  refine getmeth_ok I1 ea c hm l ?_
  exact PySem.W.callWith_K0 (first := [.ref a]) I1.kIn hm.kp (run_fnSD (us := [.ref a]) (vs := [.ref a]) F hr hb hd (hx σ) I1 (.cons rfl .nil) q)
/-- C(..) -/
def tMakeSD (C : Addr) (sp : Sp) (dvs : List V) (E : L2.St → XK) (t : TA) : TE := fun σ H Q => t σ H fun vs H1 => ∀ x dx, H1 x = none → H1 dx = none → dx ≠ x →
  sp (.ref x :: (vs ++ dvs)) (upd (upd H1 dx (.own x)) x (.ins C dx [])) (fun v H2 => v = .non ∧ Q (.ref x) H2) (E σ)
theorem pass_made {pins : List (Addr × Obj)} {σ : L2.St} {H H1 : Hp} {s s1 : Shared} (hx : PassesAt CX X σ (E σ)) (I2 : Inv X pins σ H1 s1) : ∀ e s', CX X.stack H1 s1 (E σ) e s' → X.xe e s' := fun e s' c => hx pins H1 s1 e s' I2 c
theorem run_makeSD {pins : List (Addr × Obj)} {σ : L2.St} {H : Hp} {s : Shared} {Q : VK} {us : List Value} {vs : List V} (M : Mk X.K C f) (F : FnOk X.prog X.w X.K X.mg X.base CX k f fd ps sp) (hr : Room (k + 1) X.A) (hb : Binds X.K fd ps ds) (hd : Vals dvs ds)
    (hx : PassesAt CX X σ (E σ)) (I : Inv X pins σ H s) (r : Vals vs us)
    (h : ∀ x dx, H x = none → H dx = none → dx ≠ x → sp (.ref x :: (vs ++ dvs)) (upd (upd H dx (.own x)) x (.ins C dx [])) (fun v H2 => v = .non ∧ Q (.ref x) H2) (E σ)) :
    wpAny (model X.prog X.w) X.A (call (.ref C) us) (EP X pins σ Q) X.xe s := by
  have hq := h (s.heap.objs.size + 1) s.heap.objs.size (I.hok.fresh (Nat.le_succ _)) (I.hok.fresh (Nat.le_refl _)) (Nat.ne_of_lt (Nat.lt_succ_self _))
  have I2 := Inv.made (C := C) I
  have r2 : Vals (V.ref (s.heap.objs.size + 1) :: (vs ++ dvs)) (Value.ref (s.heap.objs.size + 1) :: (us ++ ds)) := .cons rfl (r.append hd)
  have hl : (Value.ref (s.heap.objs.size + 1) :: us ++ ds).length = ps.length := by
    have e := r2.length
    rw [F.len _ _ _ _ hq] at e
    exact e.symm
  refine wpAny_call (make_map (f := f) I.kIn M.makes M.init (beq_iff_eq.mp M.fn) (codeAny_mono (F.run _ X.stack _ _ ⟨Value.ref (s.heap.objs.size + 1) :: us, []⟩ (Value.ref (s.heap.objs.size + 1) :: (us ++ ds)) _ _ (E σ) (hr.make C us [])
    (I2.env0.make C us []) (hb _ (Value.ref (s.heap.objs.size + 1) :: us) I2.kIn hl) r2 hq) fun r s' hq' => ?_))
  cases r with
  | error e => exact hx pins _ _ e s' I2 hq'
  | ok fl =>
    cases fl with
    | ret u =>
      obtain ⟨v, H', I3, rv, ev, q3⟩ := I2.after hq'
      subst ev
      exact ⟨rv, ⟨V.ref (s.heap.objs.size + 1), H', I3, rfl, q3⟩⟩
    | next => exact False.elim hq'
    | brk => exact False.elim hq'
    | cont => exact False.elim hq'
theorem pe_makeSD (M : Mk X.K C f) (F : FnOk X.prog X.w X.K X.mg X.base CX k f fd ps sp) (hr : Room (k + 1) X.A) (hg : Gl X x) (hm : X.mg x = some (.ref C)) (hb : Binds X.K fd ps ds) (hd : Vals dvs ds) (hx : ∀ σ, PassesAt CX X σ (E σ))
    (ha : PA X (e :: es) t) (hdb : (x == ("__debug__" : Str)) = false := by decide) (he : starEach (e :: es) X.env = (false, eval e X.env) :: starEach es X.env := by rfl) (hpl : (backTo pos (starEach es X.env)).any (·.1) = false := by rfl) :
    PE X (.Call (.Name x p) (e :: es) [] pos) (tMakeSD C sp dvs E t) := by
  refine ⟨fun pins s σ H Q I h => ?_⟩
  refine wpAny_Call_Name_kw (ld_glob I hg hm ?_ hdb)
  refine PySem.W.callWith_K (h₀ := X.base) I.ok.mod.kin M.kp (thn (ha.run pos pins s σ H _ I h) fun us s1 ⟨vs, H1, I1, r, q⟩ => ⟨I1.kIn, ?_⟩) he hpl
  exact run_makeSD M F hr hb hd (hx σ) I1 r q
theorem pe_makeSD0 (M : Mk X.K C f) (F : FnOk X.prog X.w X.K X.mg X.base CX k f fd ps sp) (hr : Room (k + 1) X.A) (hg : Gl X x) (hm : X.mg x = some (.ref C)) (hb : Binds X.K fd ps ds) (hd : Vals dvs ds) (hx : ∀ σ, PassesAt CX X σ (E σ))
    (hdb : (x == ("__debug__" : Str)) = false := by decide) : PE X (.Call (.Name x p) [] [] pos) (tMakeSD C sp dvs E tNil) := by
  refine ⟨fun pins s σ H Q I h => ?_⟩
  refine wpAny_Call_Name_kw (ld_glob I hg hm ?_ hdb)
  exact PySem.W.callWith_K0 I.kIn M.kp (run_makeSD (us := []) (vs := []) M F hr hb hd (hx σ) I .nil h)
/-- C(.., k = v) -/
def tMakeNS (C : Addr) (n m : Nat) (sp : Sp) (gV : List V → List V → List V) (E : L2.St → XK) (t tk : TA) : TE := fun σ H Q => t σ H fun vs H1 => tk σ H1 fun zs H2 => vs.length = n ∧ zs.length = m ∧
  ∀ x dx, H2 x = none → H2 dx = none → dx ≠ x → sp (gV (.ref x :: vs) zs) (upd (upd H2 dx (.own x)) x (.ins C dx [])) (fun v H3 => v = .non ∧ Q (.ref x) H3) (E σ)
theorem run_makeNS {pins : List (Addr × Obj)} {σ : L2.St} {H : Hp} {s : Shared} {Q : VK} {us ws : List Value} {vs zs : List V} (M : Mk X.K C f) (F : FnOk X.prog X.w X.K X.mg X.base CX k f fd ps sp) (hr : Room (k + 1) X.A) (hb : KBn X.K fd ps (n + 1) ks g gV)
    (hx : PassesAt CX X σ (E σ)) (I : Inv X pins σ H s) (r : Vals vs us) (rz : Vals zs ws) (l1 : vs.length = n) (l2 : zs.length = ks.length)
    (h : ∀ x dx, H x = none → H dx = none → dx ≠ x → sp (gV (.ref x :: vs) zs) (upd (upd H dx (.own x)) x (.ins C dx [])) (fun v H2 => v = .non ∧ Q (.ref x) H2) (E σ)) :
    wpAny (model X.prog X.w) X.A (call (.ref C) us (ks.zip ws)) (EP X pins σ Q) X.xe s := by
  have hq := h (s.heap.objs.size + 1) s.heap.objs.size (I.hok.fresh (Nat.le_succ _)) (I.hok.fresh (Nat.le_refl _)) (Nat.ne_of_lt (Nat.lt_succ_self _))
  have I2 := Inv.made (C := C) I
  have r1 : Vals (V.ref (s.heap.objs.size + 1) :: vs) (Value.ref (s.heap.objs.size + 1) :: us) := .cons rfl r
  have r2 := hb.rel r1 rz
  have e1 : (Value.ref (s.heap.objs.size + 1) :: us).length = n + 1 := r1.length.symm.trans (congrArg Nat.succ l1)
  have e2 : ws.length = ks.length := rz.length.symm.trans l2
  refine wpAny_call (make_map (f := f) I.kIn M.makes M.init (beq_iff_eq.mp M.fn) (codeAny_mono (F.run _ X.stack _ _ ⟨Value.ref (s.heap.objs.size + 1) :: us, ks.zip ws⟩ (g (Value.ref (s.heap.objs.size + 1) :: us) ws) _ _ (E σ) (hr.make C us (ks.zip ws))
    (I2.env0.make C us (ks.zip ws)) (hb.to _ (Value.ref (s.heap.objs.size + 1) :: us) ws I2.kIn e1 e2) r2 hq) fun r s' hq' => ?_))
  cases r with
  | error e => exact hx pins _ _ e s' I2 hq'
  | ok fl =>
    cases fl with
    | ret u =>
      obtain ⟨v, H', I3, rv, ev, q3⟩ := I2.after hq'
      subst ev
      exact ⟨rv, ⟨V.ref (s.heap.objs.size + 1), H', I3, rfl, q3⟩⟩
    | next => exact False.elim hq'
    | brk => exact False.elim hq'
    | cont => exact False.elim hq'
theorem pe_makeNS (M : Mk X.K C f) (F : FnOk X.prog X.w X.K X.mg X.base CX k f fd ps sp) (hr : Room (k + 1) X.A) (hg : Gl X x) (hm : X.mg x = some (.ref C)) (hb : KBn X.K fd ps (n + 1) ks g gV) (hx : ∀ σ, PassesAt CX X σ (E σ))
    (ha : PA X (e :: es) t) (hkw : PK X kws tk) (hall : (backToKw pos (keywordEach kws X.env)).all (·.1.isSome) = true := by rfl) (hks : (backToKw pos (keywordEach kws X.env)).filterMap (·.1) = ks := by rfl)
    (hdb : (x == ("__debug__" : Str)) = false := by decide) (he : starEach (e :: es) X.env = (false, eval e X.env) :: starEach es X.env := by rfl)
    (hpl : ((backTo pos (starEach (e :: es) X.env)).any (·.1) || (backToKw pos (keywordEach kws X.env)).any (·.1.isNone)) = false := by rfl) :
    PE X (.Call (.Name x p) (e :: es) kws pos) (tMakeNS C n ks.length sp gV E t tk) := by
  refine ⟨fun pins s σ H Q I h => ?_⟩
  refine wpAny_Call_Name_kw (ld_glob I hg hm ?_ hdb)
  refine PySem.W.callWith_KW (h₀ := X.base) I.ok.mod.kin M.kp hall (thn (ha.run pos pins s σ H _ I h) fun us s1 ⟨vs, H1, I1, r, q⟩ => ?_) hpl he
  refine thn (hkw.run pos pins s1 σ H1 _ I1 q) fun ws s2 ⟨zs, H2, I2, rz, l1, l2, q2⟩ => ⟨I2.kIn, ?_⟩
  rw [hks]
  exact run_makeNS M F hr hb (hx σ) I2 r rz l1 l2 q2
theorem pe_makeNS0 (M : Mk X.K C f) (F : FnOk X.prog X.w X.K X.mg X.base CX k f fd ps sp) (hr : Room (k + 1) X.A) (hg : Gl X x) (hm : X.mg x = some (.ref C)) (hb : KBn X.K fd ps 1 ks g gV) (hx : ∀ σ, PassesAt CX X σ (E σ))
    (hkw : PK X kws tk) (hall : (backToKw pos (keywordEach kws X.env)).all (·.1.isSome) = true := by rfl) (hks : (backToKw pos (keywordEach kws X.env)).filterMap (·.1) = ks := by rfl)
    (hdb : (x == ("__debug__" : Str)) = false := by decide)
    (hpl : ((backTo pos (starEach [] X.env)).any (·.1) || (backToKw pos (keywordEach kws X.env)).any (·.1.isNone)) = false := by rfl) :
    PE X (.Call (.Name x p) [] kws pos) (tMakeNS C 0 ks.length sp gV E tNil tk) := by
  refine ⟨fun pins s σ H Q I h => ?_⟩
  refine wpAny_Call_Name_kw (ld_glob I hg hm ?_ hdb)
  refine PySem.W.callWith_KW0 (h₀ := X.base) I.ok.mod.kin M.kp hall ?_ hpl
  refine thn (hkw.run pos pins s σ H _ I h) fun ws s2 ⟨zs, H2, I2, rz, l1, l2, q2⟩ => ⟨I2.kIn, ?_⟩
  rw [hks]
  exact run_makeNS (us := []) (vs := []) M F hr hb (hx σ) I2 .nil rz rfl l2 q2
end
end DL

end
section
set_option maxHeartbeats 4000000
namespace DL
open PySem PySem.Spec PyProof.Rows L2
section
variable {K : PySem.W.Frag} {hid : Addr → Prop} {M M1 : Mem} {ad ad1 : List Addr} {H H1 : Hp} {σ : L2.St} {ρ : Rho} {W : WX}
def insOf (d : D) (M : Mem) : Option (Str × List Str × List D) := match d with
  | .ins c ns vs => some (c, ns, vs)
  | .obj j => (match M[j]? with
    | some (.ins c ns vs) => some (c, ns, vs)
    | _ => none)
  | _ => none
theorem insOf_rp (k : Ok K hid M ad H) {d : D} {v : V} {c : Str} {ns : List Str} {ds : List D} (h : insOf d M = some (c, ns, ds)) (r : Rp K (wd hid M ad H) d v) :
    ∃ a dx es, v = .ref a ∧ H a = some (.ins (He.ga K c) dx es) ∧ es.map (·.1) = ns ∧ RpL K (wd hid M ad H) ds (es.map (·.2)) := by
  cases d with
  | ins c' ns' vs' =>
    cases h
    simp only [Rp] at r
    obtain ⟨a, dx, es, e1, e2, _, e3, e4⟩ := r
    exact ⟨a, dx, es, e1, e2, e3, e4⟩
  | obj j =>
    simp only [Rp] at r
    obtain ⟨a, e1, e2⟩ := r
    have h' : (match M[j]? with
      | some (MO.ins c ns vs) => some (c, ns, vs)
      | _ => none) = some (c, ns, ds) := h
    cases e : M[j]? with
    | none =>
      rw [e] at h'
      cases h'
    | some o =>
      rw [e] at h'
      cases o with
      | ins c2 ns2 ds2 =>
        cases h'
        obtain ⟨dx, es, g1, g2, g3⟩ := k.ob j _ a e e2
        exact ⟨a, dx, es, e1, g1, g2, g3⟩
      | _ => cases h'
  | _ => cases h
def fldD (f : Str) : List Str → List D → Option D
  | n :: ns, d :: ds => if f = n then some d else fldD f ns ds
  | _, _ => none
theorem fldD_rp {Wd' : Wd} {f : Str} : ∀ {es : List (Str × V)} {ds : List D} {d : D}, RpL K Wd' ds (es.map (·.2)) → fldD f (es.map (·.1)) ds = some d → ∃ v, es.lookup f = some v ∧ Rp K Wd' d v
  | [], ds, d, r, h => by
    cases ds <;> cases h
  | (n, v) :: es, ds, d, r, h => by
    cases ds with
    | nil => cases h
    | cons d0 ds =>
      obtain ⟨v0, r0, e0, h1, h2⟩ := r.consI
      cases e0
      have h' : (if f = n then some d0 else fldD f (es.map (·.1)) ds) = some d := h
      by_cases c : f = n
      · rw [if_pos c] at h'
        cases h'
        refine ⟨v, ?_, h1⟩
        rw [List.lookup_cons, c]
        simp
      · rw [if_neg c] at h'
        obtain ⟨u, e1, e2⟩ := fldD_rp h2 h'
        refine ⟨u, ?_, e2⟩
        rw [List.lookup_cons]
        have : (f == n) = false := by simpa using c
        rw [this]
        exact e1
theorem fldD_none {f : Str} : ∀ {es : List (Str × V)}, f ∉ es.map (·.1) → es.lookup f = none
  | [], _ => rfl
  | (n, v) :: es, h => by
    rw [List.map_cons, List.mem_cons, not_or] at h
    rw [List.lookup_cons]
    have : (f == n) = false := by simpa using h.1
    rw [this]
    exact fldD_none h.2
/-- o.f -/
def fFld (cs : List Str) (f : Str) (d : D) (M : Mem) : Res D := match insOf d M with
  | some (c, ns, vs) => if c ∈ cs then (match fldD f ns vs with
    | some d => .ok d M
    | none => .bad) else .bad
  | none => .bad
def mFld (cs : List Str) (f : Str) (m : SE) : SE := fun ρ M => (m ρ M).bind fun d M1 => fFld cs f d M1
theorem snd_fld {cs : List Str} {f : Str} {te : TE} {m : SE} (hC : ∀ c, c ∈ cs → Cls K (He.ga K c) ∧ NoAttr K (He.ga K c) f) (s : Snd K W te m) : Snd K W (tFld K te f) (mFld cs f m) := fun hid σ ρ M ad H Q k r h => by
  refine s.step k r (pV K hid Q (wx W σ)) h fun d M1 x ad1 H1 f1 k1 rx r1 h1 => ?_
  unfold fFld at h1
  cases e : insOf d M1 with
  | none =>
    rw [e] at h1
    exact h1.elim
  | some p =>
    obtain ⟨c, ns, ds⟩ := p
    rw [e] at h1
    have h2 : (pV K hid Q (wx W σ)).P M1 ad1 H1 (if c ∈ cs then (match fldD f ns ds with
      | some d => .ok d M1
      | none => .bad) else .bad) := h1
    by_cases hc : c ∈ cs
    · rw [if_pos hc] at h2
      cases e2 : fldD f ns ds with
      | none =>
        rw [e2] at h2
        exact h2.elim
      | some d1 =>
        rw [e2] at h2
        obtain ⟨a, dx, es, g1, g2, g3, g4⟩ := insOf_rp k1 e rx
        subst g3
        obtain ⟨v, q1, q2⟩ := fldD_rp g4 e2
        exact ⟨a, _, dx, es, v, g1, g2, (hC c hc).1, (hC c hc).2, q1, h2 v ad1 H1 Fr.refl k1 q2⟩
    · rw [if_neg hc] at h2
      exact h2.elim
/-- o.f = e, o an instance of the memory -/
def putNs (f : Str) : List Str → List Str
  | [] => [f]
  | g :: r => if g = f then g :: r else g :: putNs f r
def putDs (f : Str) (d : D) : List Str → List D → List D
  | g :: ns, x :: ds => if g = f then d :: ds else x :: putDs f d ns ds
  | _, _ => [d]
theorem putF_ns (f : Str) (v : V) : ∀ es : List (Str × V), (putF f v es).map (·.1) = putNs f (es.map (·.1))
  | [] => rfl
  | (g, x) :: r => by
    show (if g = f then (g, v) :: r else (g, x) :: putF f v r).map (·.1) = if g = f then g :: r.map (·.1) else g :: putNs f (r.map (·.1))
    by_cases c : g = f
    · rw [if_pos c, if_pos c]
      rfl
    · rw [if_neg c, if_neg c, List.map_cons, putF_ns f v r]
theorem putF_ds {Wd' : Wd} {f : Str} {d : D} {v : V} (rv : Rp K Wd' d v) : ∀ {es : List (Str × V)} {ds : List D}, RpL K Wd' ds (es.map (·.2)) → RpL K Wd' (putDs f d (es.map (·.1)) ds) ((putF f v es).map (·.2))
  | [], ds, r => by
    have e : ds = [] := by
      cases ds with
      | nil => rfl
      | cons d ds =>
        obtain ⟨v0, r0, e0, _⟩ := r.consI
        cases e0
    subst e
    exact RpL.cons rv RpL.nil
  | (g, x) :: es, ds, r => by
    cases ds with
    | nil =>
      have := r.nilI
      cases this
    | cons d0 ds =>
      obtain ⟨v0, r0, e0, h1, h2⟩ := r.consI
      cases e0
      show RpL K Wd' (if g = f then d :: ds else d0 :: putDs f d (es.map (·.1)) ds) ((if g = f then (g, v) :: es else (g, x) :: putF f v es).map (·.2))
      by_cases c : g = f
      · rw [if_pos c, if_pos c]
        exact RpL.cons rv h2
      · rw [if_neg c, if_neg c]
        exact RpL.cons h1 (putF_ds rv h2)
def mFldSet (cs : List Str) (f : Str) (me mo : SE) : SS := fun ρ M => liftE (me ρ M) ρ fun d M1 => liftE (mo ρ M1) ρ fun x M2 => match x with
  | .obj j => (match M2[j]? with
    | some (.ins c ns vs) => if c ∈ cs ∧ vs.length < 1000 then .ok (.nx ρ) (M2.set j (.ins c (putNs f ns) (putDs f d ns vs))) else .bad
    | _ => .bad)
  | _ => .bad
theorem snd_fldSet {cs : List Str} {f : Str} {te to : TE} {me mo : SE} (hC : ∀ c, c ∈ cs → Cls K (He.ga K c) ∧ NoAttr K (He.ga K c) f) (he : Snd K W te me) (ho : Snd K W to mo) : SndS K W (sFld K to te f) (mFldSet cs f me mo) := fun hid σ ρ M ad H E st q => by
  refine he.stepS st q fun d M1 v ad1 H1 f1 s1 rv q1 => ?_
  refine ho.stepS s1 q1 fun x M2 vx ad2 H2 f2 s2 rx q2 => ?_
  have rv2 := Rp.le f2.le d rv
  cases x with
  | obj j =>
    simp only [Rp] at rx
    obtain ⟨a, ex, ea⟩ := rx
    have q3 : PostS K W hid (hS hid ρ σ) M2 ad2 H2 E (match M2[j]? with
      | some (.ins c ns vs) => if c ∈ cs ∧ vs.length < 1000 then (Res.ok (Fl.nx ρ) (M2.set j (.ins c (putNs f ns) (putDs f d ns vs))) : Res Fl) else .bad
      | _ => .bad) := q2
    cases e : M2[j]? with
    | none =>
      rw [e] at q3
      exact q3.elim
    | some o =>
      rw [e] at q3
      cases o with
      | ins c ns ds =>
        have q4 : PostS K W hid (hS hid ρ σ) M2 ad2 H2 E (if c ∈ cs ∧ ds.length < 1000 then (Res.ok (Fl.nx ρ) (M2.set j (.ins c (putNs f ns) (putDs f d ns ds))) : Res Fl) else .bad) := q3
        by_cases hc : c ∈ cs ∧ ds.length < 1000
        · rw [if_pos hc] at q4
          obtain ⟨dx, es, g1, g2, g3⟩ := s2.ok.ob j _ a e ea
          subst g2
          obtain ⟨f4, k4⟩ := mem_set (u := .ins (He.ga K c) dx (putF f v es)) (o' := .ins c (putNs f (es.map (·.1))) (putDs f d (es.map (·.1)) ds)) s2.ok e (by intro z; cases z) ea (by intro z; cases z)
          have k5 := k4 ⟨dx, putF f v es, upd_same, putF_ns f v es, putF_ds (Rp.le f4.le d rv2) (RpL.le f4.le ds g3)⟩
          have hl : es.length < 1000 := by
            have := g3.len
            rw [List.length_map] at this
            omega
          refine ⟨a, _, dx, es, ex, g1, (hC c hc.1).1, (hC c hc.1).2, hl, ?_⟩
          exact q4 σ ad2 _ (FrG.of f4 fun _ z => .inl z) (s2.fr f4 k5)
        · rw [if_neg hc] at q4
          exact q4.elim
      | _ => exact q3.elim
  | _ => exact q2.elim
/-- an instance that is done with: a value from now on -/
theorem freeze_mem (k : Ok K hid M ad H) {j : Nat} {c : Str} {ns : List Str} {ds : List D} {a : Addr} (e : M[j]? = some (.ins c ns ds)) (ea : ad[j]? = some a) :
    Fr hid M ad H (M.set j .dead) ad H ∧ Ok K hid (M.set j .dead) ad H ∧ Rp K (wd hid (M.set j .dead) ad H) (.ins c ns ds) (.ref a) := by
  have hl := (List.getElem?_eq_some_iff.mp e).1
  have lv : ∀ i, lvI (M.set j .dead) i → lvI M i ∧ i ≠ j := fun i ⟨o, z1, z2⟩ => by
    by_cases q : j = i
    · subst q
      rw [List.getElem?_set_self hl] at z1
      cases z1
      exact absurd rfl z2
    · rw [List.getElem?_set_ne q] at z1
      exact ⟨⟨o, z1, z2⟩, fun z => q z.symm⟩
  have bd : ∀ b, badOf hid (M.set j .dead) ad b → badOf hid M ad b := fun b z => z.elim .inl fun ⟨i, z1, z2⟩ => .inr ⟨i, (lv i z1).1, z2⟩
  have le : Le (wd hid M ad H) (wd hid (M.set j .dead) ad H) := ⟨⟨[], by simp⟩, fun b o h n => ⟨h, fun z => n (bd b z)⟩⟩
  have lj : lvI M j := ⟨_, e, by intro z; cases z⟩
  obtain ⟨dx, es, g1, g2, g3⟩ := k.ob j _ a e ea
  refine ⟨⟨le, fun _ _ => rfl, fun _ h => h⟩, ⟨by rw [List.length_set]; exact k.len, fun i l b z1 z2 => k.inj i l b (lv i z1).1 (lv l z2).1, fun i b z1 => k.nh i b (lv i z1).1, fun i o b z1 z2 => ?_, k.hh⟩, ?_⟩
  · by_cases q : j = i
    · subst q
      rw [List.getElem?_set_self hl] at z1
      cases z1
      trivial
    · rw [List.getElem?_set_ne q] at z1
      exact MOk.le le rfl (k.ob i o b z1 z2)
  · simp only [Rp]
    refine ⟨a, dx, es, rfl, g1, ?_, g2, RpL.le le ds g3⟩
    rintro (z | ⟨i, z1, z2⟩)
    · exact k.nh j a lj ea z
    · obtain ⟨z3, z4⟩ := lv i z1
      exact z4 (k.inj i j a z3 lj z2 ea)
def mkEnd2 (j : Nat) (M2 : Mem) (o : Option MO) : Res D := match o with
  | some (.ins c ns vs) => .ok (.ins c ns vs) (M2.set j .dead)
  | _ => .bad
def mkEnd1 (j : Nat) (d : D) (M2 : Mem) : Res D := match d with
  | .non => mkEnd2 j M2 (M2[j]?)
  | _ => .bad
def mkEnd (j : Nat) (r : Res D) : Res D := r.bind fun d M2 => mkEnd1 j d M2
/-- a new instance is laid, its __init__ run, its end -/
theorem make_sp {c : Str} {n : Nat} {g : GF} {ds : List D} {vs : List V} {x dx : Addr} {Q : VK} {E : XK} (k : Ok K hid M ad H) (r : RpL K (wd hid M ad H) ds vs) (hx : H x = none) (hdx : H dx = none) (ne : dx ≠ x) (hl : ds.length + 1 = n)
    (h : (pV K hid Q E).P M ad H (mkEnd M.length (g (.obj M.length :: ds) (M ++ [.ins c [] []])))) :
    spD K n g (.ref x :: vs) (upd (upd H dx (.own x)) x (.ins (He.ga K c) dx [])) (fun v H2 => v = .non ∧ Q (.ref x) H2) E := by
  have f1 : Fr hid M ad H M ad (upd H dx (.own x)) := Fr.new hdx (k.fresh hdx)
  have k1 : Ok K hid M ad (upd H dx (.own x)) := k.new hdx
  have hx1 : upd H dx (.own x) x = none := by rw [upd_ne (fun z => ne z.symm)]; exact hx
  have k2 : Ok K (hidA hid x) M ad (upd (upd H dx (.own x)) x (.ins (He.ga K c) dx [])) := k1.hide hx1
  have nh : ¬ hid x := fun z => k1.hh x z hx1
  obtain ⟨k3, l3⟩ := join_mem (o := .ins c [] []) (by intro z; cases z) nh k2 ⟨dx, [], upd_same, rfl, RpL.nil⟩
  have f3 : Fr hid M ad (upd H dx (.own x)) (M ++ [.ins c [] []]) (ad ++ [x]) (upd (upd H dx (.own x)) x (.ins (He.ga K c) dx [])) := by
    refine ⟨(Le.hide hx1).trans l3, fun b z => upd_ne (fun q : b = x => nh (q ▸ z)), fun b z => ?_⟩
    by_cases q : b = x
    · rw [q, upd_same]
      simp
    · rw [upd_ne q]
      exact z
  have f4 := f1.trans f3
  have le : ad.length = M.length := k.len
  have r4 : Rp K (wd hid (M ++ [.ins c [] []]) (ad ++ [x]) (upd (upd H dx (.own x)) x (.ins (He.ga K c) dx []))) (.obj M.length) (.ref x) := by
    simp only [Rp]
    refine ⟨x, rfl, ?_⟩
    rw [← le]
    exact List.getElem?_concat_length ..
  refine ⟨hid, .obj M.length :: ds, _, _, by rw [List.length_cons]; exact hl, k3, RpL.cons r4 (RpL.le f4.le ds r), ?_⟩
  cases e : g (.obj M.length :: ds) (M ++ [.ins c [] []]) with
  | bad =>
    rw [e] at h
    exact h.elim
  | exc c' ns es M2 =>
    rw [e] at h
    exact PostX.fr f4 h
  | ok d M2 =>
    rw [e] at h
    intro v ad2 H2 f5 k5 rv
    have h2 : (pV K hid Q E).P M ad H (mkEnd1 M.length d M2) := h
    cases d with
    | non =>
      have ev : v = .non := by simpa only [Rp] using rv
      refine ⟨ev, ?_⟩
      have h3 : (pV K hid Q E).P M ad H (mkEnd2 M.length M2 (M2[M.length]?)) := h2
      cases e2 : M2[M.length]? with
      | none =>
        rw [e2] at h3
        exact h3.elim
      | some o =>
        rw [e2] at h3
        cases o with
        | ins c2 ns2 ds2 =>
          have ea : ad2[M.length]? = some x := by
            obtain ⟨z, hz⟩ := f5.le.pre
            have hz' : ad2 = (ad ++ [x]) ++ z := hz
            rw [hz', List.getElem?_append_left (by rw [List.length_append, le]; simp), ← le]
            exact List.getElem?_concat_length ..
          obtain ⟨f6, k6, r6⟩ := freeze_mem k5 e2 ea
          exact h3 (.ref x) ad2 H2 ((f4.trans f5).trans f6) k6 r6
        | _ => exact h3.elim
    | _ => exact h2.elim
/-- C(..) -/
def mMake (c : Str) (n : Nat) (g : GF) (dd : List D) (ma : SA) : SE := fun ρ M => (ma ρ M).bind fun ds M1 => if (ds ++ dd).length + 1 = n then mkEnd M1.length (g (.obj M1.length :: (ds ++ dd)) (M1 ++ [.ins c [] []])) else .bad
theorem snd_make {c : Str} {n : Nat} {g : GF} {dd : List D} {dvs : List V} {ta : TA} {ma : SA} (hd : ∀ W : Wd, RpL K W dd dvs) (ha : SndA K W ta ma) : Snd K W (tMakeSD (He.ga K c) (spD K n g) dvs (WE W) ta) (mMake c n g dd ma) := fun hid σ ρ M ad H Q k r h => by
  refine ha.step k r (pV K hid Q (wx W σ)) h fun ds M1 xs ad1 H1 f1 k1 rx r1 h1 => ?_
  by_cases cl : (ds ++ dd).length + 1 = n
  · rw [if_pos cl] at h1
    exact fun x dx hx hdx ne => make_sp k1 (rx.append (hd _)) hx hdx ne cl h1
  · rw [if_neg cl] at h1
    exact h1.elim
/-- C(.., k = v): pm puts the parameters (self apart) in their order -/
def mMakeK (c : Str) (n a b : Nat) (g : GF) (pm : List D → List D → List D) (ma mk : SA) : SE := fun ρ M => (ma ρ M).bind fun ds M1 => (mk ρ M1).bind fun es M2 => if ds.length = a ∧ es.length = b ∧ (pm ds es).length + 1 = n then mkEnd M2.length (g (.obj M2.length :: pm ds es) (M2 ++ [.ins c [] []])) else .bad
theorem snd_makeK {c : Str} {n a b : Nat} {g : GF} {pm : List D → List D → List D} {gV gW : List V → List V → List V} {ta tk : TA} {ma mk : SA} (hg : ∀ x vs zs, gV (.ref x :: vs) zs = .ref x :: gW vs zs)
    (hp : ∀ (W : Wd) (ds es : List D) (vs zs : List V), RpL K W ds vs → RpL K W es zs → RpL K W (pm ds es) (gW vs zs)) (ha : SndA K W ta ma) (hk : SndA K W tk mk) :
    Snd K W (tMakeNS (He.ga K c) a b (spD K n g) gV (WE W) ta tk) (mMakeK c n a b g pm ma mk) := fun hid σ ρ M ad H Q k r h => by
  refine ha.step k r (pV K hid Q (wx W σ)) h fun ds M1 xs ad1 H1 f1 k1 rx r1 h1 => ?_
  refine hk.step k1 r1 (pV K hid Q (wx W σ)) h1 fun es M2 zs ad2 H2 f2 k2 rz r2 h2 => ?_
  have rx2 := RpL.le f2.le ds rx
  by_cases cl : ds.length = a ∧ es.length = b ∧ (pm ds es).length + 1 = n
  · rw [if_pos cl] at h2
    refine ⟨by rw [rx2.len]; exact cl.1, by rw [rz.len]; exact cl.2.1, fun x dx hx hdx ne => ?_⟩
    rw [hg]
    exact make_sp k2 (hp _ ds es xs zs rx2 rz) hx hdx ne cl.2.2 h2
  · rw [if_neg cl] at h2
    exact h2.elim
/-- o.m(..), the method by the class -/
def mMeth (c : Str) (m : Str) (n : Nat) (g : GF) (dd : List D) (mo : SE) (ma : SA) : SE := fun ρ M => (mo ρ M).bind fun d M1 => match insOf d M1 with
  | some (c', ns, _) => if c' = c ∧ m ∉ ns then (ma ρ M1).bind fun ds M2 => if (d :: (ds ++ dd)).length = n then g (d :: (ds ++ dd)) M2 else .bad else .bad
  | none => .bad
theorem snd_meth {c m : Str} {n : Nat} {g : GF} {dd : List D} {dvs : List V} {to : TE} {mo : SE} {ta : TA} {ma : SA} (hd : ∀ W : Wd, RpL K W dd dvs) (ho : Snd K W to mo) (ha : SndA K W ta ma) :
    Snd K W (tMethSD (He.ga K c) m (spD K n g) dvs (WE W) to ta) (mMeth c m n g dd mo ma) := fun hid σ ρ M ad H Q k r h => by
  refine ho.step k r (pV K hid Q (wx W σ)) h fun d M1 v ad1 H1 f1 k1 rv r1 h1 => ?_
  cases e : insOf d M1 with
  | none =>
    rw [e] at h1
    exact h1.elim
  | some p =>
    obtain ⟨c', ns, vs⟩ := p
    rw [e] at h1
    have h2 : (pV K hid Q (wx W σ)).P M1 ad1 H1 (if c' = c ∧ m ∉ ns then (ma ρ M1).bind fun ds M2 => if (d :: (ds ++ dd)).length = n then g (d :: (ds ++ dd)) M2 else .bad else .bad) := h1
    by_cases hc : c' = c ∧ m ∉ ns
    · rw [if_pos hc] at h2
      obtain ⟨rfl, hm⟩ := hc
      obtain ⟨a, dx, es, g1, g2, g3, g4⟩ := insOf_rp k1 e rv
      subst g1 g3
      refine ⟨a, dx, es, rfl, g2, fldD_none hm, ?_⟩
      refine ha.step k1 r1 (pV K hid Q (wx W σ)) h2 fun ds M2 xs ad2 H2 f2 k2 rx r2 h3 => ?_
      by_cases cl : (d :: (ds ++ dd)).length = n
      · rw [if_pos cl] at h3
        exact ⟨hid, d :: (ds ++ dd), M2, ad2, cl, k2, RpL.cons (Rp.le f2.le d rv) (rx.append (hd _)), h3⟩
      · rw [if_neg cl] at h3
        exact h3.elim
    · rw [if_neg hc] at h2
      exact h2.elim
/-- one of two rules -/
def tOr (t u : TE) : TE := fun σ H Q => t σ H Q ∨ u σ H Q
theorem pe_or {X : Cx} {e : Expr} {t u : TE} (h1 : PE X e t) (h2 : PE X e u) : PE X e (tOr t u) := ⟨fun pins s σ H Q I q => q.elim (h1.run pins s σ H Q I) (h2.run pins s σ H Q I)⟩
def mElse (m n : SE) : SE := fun ρ M => (m ρ M).els (n ρ M)
theorem snd_orE {t u : TE} {m n : SE} (h1 : Snd K W t m) (h2 : Snd K W u n) : Snd K W (tOr t u) (mElse m n) := fun hid σ ρ M ad H Q k r h => by
  have h' : (pV K hid Q (wx W σ)).P M ad H ((m ρ M).els (n ρ M)) := h
  cases e : m ρ M with
  | bad =>
    rw [e] at h'
    exact .inr (h2 hid σ ρ M ad H Q k r h')
  | ok d M1 =>
    rw [e] at h'
    exact .inl (h1 hid σ ρ M ad H Q k r (by rw [e]; exact h'))
  | exc c ns ds M1 =>
    rw [e] at h'
    exact .inl (h1 hid σ ρ M ad H Q k r (by rw [e]; exact h'))
end
end DL

end
section
set_option maxHeartbeats 4000000
namespace SU
open PySem PySem.Spec PyProof.Rows L2 NdefX DL StX
section
variable {X : Cx} {b : List Stmt}
theorem paa_cons {e : Expr} {es : List Expr} {te : TE} {t : TA} (he : PE X e te) (hr : PAA X b es t) (hs : starEach (e :: es) X.env = (false, eval e X.env) :: starEach es X.env := by rfl) : PAA X b (e :: es) (tCons te t) := by
  refine ⟨fun pos pins s σ H Q I h => ?_⟩
  rw [hs]
  show _root_.PySem.wpAt _ _ _ (spliced ((false, eval e X.env) :: backTo pos (starEach es X.env))) _ _ _
  rw [spliced]
  refine _root_.PySem.wpAt_bind (wpAt_of_wpAny (thn (he.run pins s σ H _ I h) fun v s1 ⟨x, H1, I1, r1, q1⟩ => ?_))
  simp only [Bool.false_eq_true, if_false]
  refine _root_.PySem.wpAt_bind (wpAt_of_wpAny (wpAny_pure ?_))
  refine _root_.PySem.wpAt_bind (ks_wpAt_holding (ks_wpAt_mono (hr.run pos pins s1 σ H1 _ I1 q1) (fun us s2 ⟨vs, H2, I2, r2, q2⟩ => wpAt_of_wpAny (wpAny_pure ⟨x :: vs, H2, I2, .cons r1 r2, q2⟩)) fun _ _ z => z))
theorem paa_star {e : Expr} {es : List Expr} {te : TE} {t : TA} {p : Pos} (he : PEA X b e te) (hr : PA X es t) (hs : starEach (.Starred e p :: es) X.env = (true, eval e X.env) :: starEach es X.env := by rfl) : PAA X b (.Starred e p :: es) (tStar X.K te t) := by
  refine ⟨fun pos pins s σ H Q I h => ?_⟩
  rw [hs]
  show _root_.PySem.wpAt _ _ _ (spliced ((true, (do let v ← eval e X.env; standAt pos; pure v)) :: backTo pos (starEach es X.env))) _ _ _
  rw [spliced]
  refine _root_.PySem.wpAt_bind (_root_.PySem.wpAt_bind (ks_wpAt_mono (he.run pins s σ H _ I h) (fun v s1 ⟨y, H1, I1, ry, a, xs, ey, hx, q⟩ => wpAt_of_wpAny (wpAny_bind (wpAny_standAt (wpAny_pure (wpAt_of_wpAny ?_))))) fun _ _ z => z))
  subst ey
  obtain rfl : v = Value.ref a := ry
  simp only [if_true]
  have key : PySem.W.StarOf (model X.prog X.w) X.A X.xe (.ref a) (fun us s2 => wpAny (model X.prog X.w) X.A (spliced (backTo pos (starEach es X.env))) (fun ws s3 => AP X pins σ Q (us ++ ws) s3) X.xe s2) s1 :=
    star_any I1 hx fun us s2 I2 rv => thn (hr.run pos pins s2 σ H1 _ I2 q) fun ws s3 ⟨vs, H3, I3, r3, q3⟩ => ⟨xs ++ vs, H3, I3, rv.append r3, q3⟩
  unfold PySem.W.StarOf at key
  refine wpAny_bind (wpAny_mono key (fun bb s2 h12 => ?_) fun _ _ z => z)
  obtain ⟨rfl, h2⟩ := h12
  have z := wpAny_mono h2 (fun here s₃ h₃ => (show wpAny (model X.prog X.w) X.A (holding here (spliced (backTo pos (starEach es X.env))) >>= fun r => pure (here ++ r)) (AP X pins σ Q) X.xe s₃ from
    wpAny_bind (wpAny_holding (wpAny_mono h₃ (fun vs s₄ h₄ => wpAny_pure h₄) fun _ _ x => x)))) fun _ _ x => x
  try simp only [Bool.false_eq_true, if_false]
  first
    | exact wpAny_bind z
    | exact z
    | exact wpAny_bind (wpAny_pure z)
theorem pea_lst {es : List Expr} {t : TA} {pos : Pos} (h : PAA X b es t) : PEA X b (.List es pos) (tLst t) := by
  refine ⟨fun pins s σ H Q I hq => ?_⟩
  rw [arm_eval_List]
  refine _root_.PySem.wpAt_bind (wpAt_of_wpAny (wpAny_standAt (_root_.PySem.wpAt_bind (ks_wpAt_mono (h.run pos pins s σ H _ I hq) (fun us s1 ⟨xs, H1, I1, r, z, q⟩ => wpAt_of_wpAny (wpAny_newList ?_ (by rw [← r.length]; exact z))) fun _ _ z => z))))
  have hf : H1 s1.heap.objs.size = none := I1.hok.fresh (Nat.le_refl _)
  refine ⟨.ref s1.heap.objs.size, upd H1 s1.heap.objs.size (.lst xs), I1.laid (t' := s1.toks) (fun b u e => Heap.get?_push_of_some _ e) (Nat.le_refl _) ?_, rfl, q _ hf⟩
  exact ⟨z, us, 0, r, Heap.get?_push_size _ rfl⟩
theorem pea_slice {r : V → Option Int → Option Int → Hp → VK → Prop} {e : Expr} {te : TE} {lo hi : Option Expr} {tl th : TO} {p2 pos : Pos} (hr : SlR X r) (he : PEA X b e te) (hl : PO X lo tl) (hu : PO X hi th) : PEA X b (.Subscript e (.Slice lo hi none p2) pos) (tSl r te tl th) := by
  refine ⟨fun pins s σ H Q I h => ?_⟩
  rw [eval_Subscript]
  refine _root_.PySem.wpAt_bind (ks_wpAt_mono (he.run pins s σ H _ I h) (fun v s1 ⟨x, H1, I1, r1, q1⟩ => wpAt_of_wpAny (wpAny_bind (wpAny_holding ?_))) fun _ _ z => z)
  refine wpAny_Slice (thn (hl.run pins s1 σ H1 _ I1 q1) fun vl s2 ⟨l, H2, I2, pl, q2⟩ => thn (hu.run pins s2 σ H2 _ I2 q2) fun vu s3 ⟨u, H3, I3, pu, q3⟩ => ?_)
  rw [evalPart_none]
  refine wpAny_pure ?_
  have I4 : Inv X pins σ H3 { s3 with heap := s3.heap.push { cls := .type "slice", data := .fields #[vl, vu, .none] } } := I3.kept (t' := s3.toks) fun b ob q => Heap.get?_push_of_some _ q
  obtain ⟨T, id, hT, ht, hg⟩ := hr pins { s3 with heap := s3.heap.push { cls := .type "slice", data := .fields #[vl, vu, .none] } } σ H3 x v vl vu l u s3.heap.objs.size Q I4 r1 (Heap.IsSliceOf.new ..) pl pu q3
  refine wpAny_bind (wpAny_standAt ?_)
  show wpAny (model X.prog X.w) X.A (subscriptTail e (.Slice lo hi none p2) v (.ref s3.heap.objs.size)) (EP X pins σ Q) X.xe { s3 with heap := s3.heap.push { cls := .type "slice", data := .fields #[vl, vu, .none] } }
  exact tail_any (ops := [.ref s3.heap.objs.size, v]) ht hT hg (by with_unfolding_all rfl)
end
section
variable {K : PySem.W.Frag} {hid : Addr → Prop} {M M1 : Mem} {ad ad1 : List Addr} {H H1 : Hp} {σ : L2.St} {ρ : Rho} {W : WX}
/-- super().m(..): self stands in the slot i0, it is of the class c -/
def mSup (c : Str) (i0 n : Nat) (g : GF) (dd : List D) (ma : SA) : SE := fun ρ M => (mVar i0 ρ M).bind fun d M0 => match insOf d M0 with
  | some (c', _, _) => if c' = c then (ma ρ M0).bind fun ds M1 => if (d :: (ds ++ dd)).length = n then g (d :: (ds ++ dd)) M1 else .bad else .bad
  | none => .bad
theorem met_kept (f : Fr hid M ad H M1 ad1 H1) (k : Ok K hid M ad H) {q g x : Addr} (n : ¬ badOf hid M ad q) (e : H q = some (.met g x)) : H1 q = some (.met g x) := (f.le.keep q _ e n).1
theorem snd_sup {c : Str} {i0 n : Nat} {g : GF} {ga : Addr} {dd : List D} {dvs : List V} {ta : TA} {ma : SA} (hd : ∀ W : Wd, RpL K W dd dvs) (ha : SndA K W ta ma) :
    Snd K W (tSup (He.ga K c) ga (spD K n g) dvs (WE W) i0 ta) (mSup c i0 n g dd ma) := fun hid σ ρ M ad H Q k r h => by
  have h0 : (pV K hid Q (wx W σ)).P M ad H ((mVar i0 ρ M).bind fun d M0 => match insOf d M0 with
    | some (c', _, _) => if c' = c then (ma ρ M0).bind fun ds M1 => if (d :: (ds ++ dd)).length = n then g (d :: (ds ++ dd)) M1 else .bad else .bad
    | none => .bad) := h
  cases e0 : ρ[i0]? with
  | none =>
    have : mVar i0 ρ M = .bad := by unfold mVar; rw [e0]
    rw [this] at h0
    exact h0.elim
  | some z =>
    cases z with
    | val d =>
      have e1 : mVar i0 ρ M = .ok d M := by unfold mVar; rw [e0]
      rw [e1] at h0
      have h1 : (pV K hid Q (wx W σ)).P M ad H (match insOf d M with
        | some (c', _, _) => if c' = c then (ma ρ M).bind fun ds M1 => if (d :: (ds ++ dd)).length = n then g (d :: (ds ++ dd)) M1 else .bad else .bad
        | none => .bad) := h0
      obtain ⟨v, g1, g2⟩ := r.val i0 d e0
      cases e2 : insOf d M with
      | none =>
        rw [e2] at h1
        exact h1.elim
      | some p =>
        obtain ⟨c', ns, vs⟩ := p
        rw [e2] at h1
        have h2 : (pV K hid Q (wx W σ)).P M ad H (if c' = c then (ma ρ M).bind fun ds M1 => if (d :: (ds ++ dd)).length = n then g (d :: (ds ++ dd)) M1 else .bad else .bad) := h1
        by_cases hc : c' = c
        · rw [if_pos hc] at h2
          subst hc
          obtain ⟨a, dx, es, q1, q2, _, _⟩ := insOf_rp k e2 g2
          subst q1
          refine ⟨a, dx, es, g1, q2, fun q hq => ?_⟩
          have fq : Fr hid M ad H M ad (upd H q (.met ga a)) := Fr.new hq (k.fresh hq)
          have kq := k.new (u := .met ga a) hq
          have nq : ¬ badOf hid M ad q := k.fresh hq
          refine ha.step kq (r.fr fq) (pV K hid Q (wx W σ)) ((pV K hid Q (wx W σ)).fr fq h2) fun ds M1 xs ad1 H1 f1 k1 rx r1 h3 => ?_
          refine ⟨met_kept f1 kq nq upd_same, ?_⟩
          by_cases cl : (d :: (ds ++ dd)).length = n
          · rw [if_pos cl] at h3
            exact ⟨hid, d :: (ds ++ dd), M1, ad1, cl, k1, RpL.cons (Rp.le (fq.trans f1).le d g2) (rx.append (hd _)), h3⟩
          · rw [if_neg cl] at h3
            exact h3.elim
        · rw [if_neg hc] at h2
          exact h2.elim
    | _ =>
      have : mVar i0 ρ M = .bad := by unfold mVar; rw [e0]
      rw [this] at h0
      exact h0.elim
def mSupK (c : Str) (i0 n a b : Nat) (g : GF) (pm : List D → List D → List D) (ma mk : SA) : SE := fun ρ M => (mVar i0 ρ M).bind fun d M0 => match insOf d M0 with
  | some (c', _, _) => if c' = c then (ma ρ M0).bind fun ds M1 => (mk ρ M1).bind fun es M2 => if ds.length = a ∧ es.length = b ∧ (d :: pm ds es).length = n then g (d :: pm ds es) M2 else .bad else .bad
  | none => .bad
theorem snd_supK {c : Str} {i0 n na nb : Nat} {g : GF} {ga : Addr} {pm : List D → List D → List D} {gV gW : List V → List V → List V} {ta tk : TA} {ma mk : SA} (hg : ∀ x vs zs, gV (.ref x :: vs) zs = .ref x :: gW vs zs)
    (hp : ∀ (W : Wd) (ds es : List D) (vs zs : List V), RpL K W ds vs → RpL K W es zs → RpL K W (pm ds es) (gW vs zs)) (ha : SndA K W ta ma) (hk : SndA K W tk mk) :
    Snd K W (tSupK (He.ga K c) ga na nb (spD K n g) gV (WE W) i0 ta tk) (mSupK c i0 n na nb g pm ma mk) := fun hid σ ρ M ad H Q k r h => by
  have h0 : (pV K hid Q (wx W σ)).P M ad H ((mVar i0 ρ M).bind fun d M0 => match insOf d M0 with
    | some (c', _, _) => if c' = c then (ma ρ M0).bind fun ds M1 => (mk ρ M1).bind fun es M2 => if ds.length = na ∧ es.length = nb ∧ (d :: pm ds es).length = n then g (d :: pm ds es) M2 else .bad else .bad
    | none => .bad) := h
  cases e0 : ρ[i0]? with
  | none =>
    have : mVar i0 ρ M = .bad := by unfold mVar; rw [e0]
    rw [this] at h0
    exact h0.elim
  | some z =>
    cases z with
    | val d =>
      have e1 : mVar i0 ρ M = .ok d M := by unfold mVar; rw [e0]
      rw [e1] at h0
      have h1 : (pV K hid Q (wx W σ)).P M ad H (match insOf d M with
        | some (c', _, _) => if c' = c then (ma ρ M).bind fun ds M1 => (mk ρ M1).bind fun es M2 => if ds.length = na ∧ es.length = nb ∧ (d :: pm ds es).length = n then g (d :: pm ds es) M2 else .bad else .bad
        | none => .bad) := h0
      obtain ⟨v, g1, g2⟩ := r.val i0 d e0
      cases e2 : insOf d M with
      | none =>
        rw [e2] at h1
        exact h1.elim
      | some p =>
        obtain ⟨c', ns, vs⟩ := p
        rw [e2] at h1
        have h2 : (pV K hid Q (wx W σ)).P M ad H (if c' = c then (ma ρ M).bind fun ds M1 => (mk ρ M1).bind fun es M2 => if ds.length = na ∧ es.length = nb ∧ (d :: pm ds es).length = n then g (d :: pm ds es) M2 else .bad else .bad) := h1
        by_cases hc : c' = c
        · rw [if_pos hc] at h2
          subst hc
          obtain ⟨a, dx, es, q1, q2, _, _⟩ := insOf_rp k e2 g2
          subst q1
          refine ⟨a, dx, es, g1, q2, fun q hq => ?_⟩
          have fq : Fr hid M ad H M ad (upd H q (.met ga a)) := Fr.new hq (k.fresh hq)
          have kq := k.new (u := .met ga a) hq
          have nq : ¬ badOf hid M ad q := k.fresh hq
          refine ha.step kq (r.fr fq) (pV K hid Q (wx W σ)) ((pV K hid Q (wx W σ)).fr fq h2) fun ds M1 xs ad1 H1 f1 k1 rx r1 h3 => ?_
          have e3 := met_kept f1 kq nq upd_same
          have nq1 : ¬ badOf hid M1 ad1 q := (f1.le.keep q _ upd_same nq).2
          refine hk.step k1 r1 (pV K hid Q (wx W σ)) h3 fun es M2 zs ad2 H2 f2 k2 rz r2 h4 => ?_
          have rx2 := RpL.le f2.le ds rx
          by_cases cl : ds.length = na ∧ es.length = nb ∧ (d :: pm ds es).length = n
          · rw [if_pos cl] at h4
            refine ⟨met_kept f2 k1 nq1 e3, by rw [rx2.len]; exact cl.1, by rw [rz.len]; exact cl.2.1, ?_⟩
            rw [hg]
            exact ⟨hid, d :: pm ds es, M2, ad2, cl.2.2, k2, RpL.cons (Rp.le ((fq.trans f1).trans f2).le d g2) (hp _ ds es xs zs rx2 rz), h4⟩
          · rw [if_neg cl] at h4
            exact h4.elim
        · rw [if_neg hc] at h2
          exact h2.elim
    | _ =>
      have : mVar i0 ρ M = .bad := by unfold mVar; rw [e0]
      rw [this] at h0
      exact h0.elim
end
end SU

end
section
set_option maxHeartbeats 4000000
namespace DL
open PySem PySem.Spec PyProof.Rows L2 StX
section
variable {K : PySem.W.Frag} {hid : Addr → Prop} {M M1 : Mem} {ad ad1 : List Addr} {H H1 : Hp} {σ : L2.St} {ρ : Rho} {W : WX}
/-- [*e, ..] -/
def mStar (m : SE) (r : SA) : SA := fun ρ M => (m ρ M).bind fun d M1 => match seqOf d with
  | some xs => (r ρ M1).bind fun ds M2 => .ok (xs ++ ds) M2
  | none => .bad
theorem snda_star {te : TE} {ta : TA} {m : SE} {ma : SA} (s : Snd K W te m) (ha : SndA K W ta ma) : SndA K W (tStar K te ta) (mStar m ma) := fun hid σ ρ M ad H Q k r h => by
  refine s.step k r (pA K hid Q (wx W σ)) h fun d M1 x ad1 H1 f1 k1 rx r1 h1 => ?_
  cases e : seqOf d with
  | none =>
    rw [e] at h1
    exact h1.elim
  | some xs =>
    rw [e] at h1
    have h2 : (pA K hid Q (wx W σ)).P M1 ad1 H1 ((ma ρ M1).bind fun ds M2 => .ok (xs ++ ds) M2) := h1
    obtain ⟨p, vs, e1, e2, e3⟩ := seqOf_rp e rx
    refine ⟨p, vs, e1, e2.elim .inr .inl, ?_⟩
    refine ha.step k1 r1 (pA K hid Q (wx W σ)) h2 fun ds M2 ys ad2 H2 f2 k2 ry r2 h3 => ?_
    exact h3 (vs ++ ys) ad2 H2 Fr.refl k2 (RpL.append (RpL.le f2.le xs e3) ry)
/-- {e} in an f-string -/
def fFmt (d : D) (M : Mem) : Res D := match d with
  | .str y => if y.length ≤ sizeLine then .ok (.str y) M else .bad
  | .int i => if i.natAbs.log2 < 1920 then .ok (.str (toString i)) M else .bad
  | _ => .bad
def mFmt (m : SE) : SE := fun ρ M => (m ρ M).bind fun d M1 => fFmt d M1
theorem snd_fmt {te : TE} {m : SE} (s : Snd K W te m) : Snd K W (tFmt te) (mFmt m) := fun hid σ ρ M ad H Q k r h => by
  refine s.step k r (pV K hid Q (wx W σ)) h fun d M1 x ad1 H1 f1 k1 rx r1 h1 => ?_
  cases d with
  | str y =>
    have e : x = .str y := by simpa only [Rp] using rx
    have h2 : (pV K hid Q (wx W σ)).P M1 ad1 H1 (if y.length ≤ sizeLine then .ok (.str y) M1 else .bad) := h1
    by_cases c : y.length ≤ sizeLine
    · rw [if_pos c] at h2
      exact .inl ⟨y, e, c, h2 _ ad1 H1 Fr.refl k1 (rp_str _)⟩
    · rw [if_neg c] at h2
      exact h2.elim
  | int i =>
    have e : x = .int i := by simpa only [Rp] using rx
    have h2 : (pV K hid Q (wx W σ)).P M1 ad1 H1 (if i.natAbs.log2 < 1920 then .ok (.str (toString i)) M1 else .bad) := h1
    by_cases c : i.natAbs.log2 < 1920
    · rw [if_pos c] at h2
      exact .inr ⟨i, e, c, h2 _ ad1 H1 Fr.refl k1 (rp_str _)⟩
    · rw [if_neg c] at h2
      exact h2.elim
  | _ => exact h1.elim
/-- the parts of an f-string -/
def mJs : List SE → Str → Rho → Mem → Res D
  | [], acc, _, M => .ok (.str acc) M
  | m :: ms, acc, ρ, M => (m ρ M).bind fun d M1 => match d with
    | .str y => if (acc ++ y).length ≤ sizeLine then mJs ms (acc ++ y) ρ M1 else .bad
    | _ => .bad
inductive SndJ (K : PySem.W.Frag) (W : WX) : List TE → List SE → Prop where
  | nil : SndJ K W [] []
  | cons {t : TE} {m : SE} {ts : List TE} {ms : List SE} (h : Snd K W t m) (r : SndJ K W ts ms) : SndJ K W (t :: ts) (m :: ms)
theorem js_run {ts : List TE} {ms : List SE} (s : SndJ K W ts ms) : ∀ {acc : Str} {M : Mem} {ad : List Addr} {H : Hp} {Q : VK}, Ok K hid M ad H → RpS K hid M ad H ρ σ → (pV K hid Q (wx W σ)).P M ad H (mJs ms acc ρ M) → tJs ts acc σ H fun out H1 => Q (.str out) H1 := by
  induction s with
  | nil => exact fun k r h => h _ _ _ Fr.refl k (rp_str _)
  | cons s1 _ ih =>
    intro acc M ad H Q k r h
    refine s1.step k r (pV K hid Q (wx W σ)) h fun d M1 x ad1 H1 f1 k1 rx r1 h1 => ?_
    cases d with
    | str y =>
      have e : x = .str y := by simpa only [Rp] using rx
      have h2 : (pV K hid Q (wx W σ)).P M1 ad1 H1 (if (acc ++ y).length ≤ sizeLine then mJs _ (acc ++ y) ρ M1 else .bad) := h1
      by_cases c : (acc ++ y).length ≤ sizeLine
      · rw [if_pos c] at h2
        exact ⟨y, e, c, ih k1 r1 h2⟩
      · rw [if_neg c] at h2
        exact h2.elim
    | _ => exact h1.elim
def mJoined (ms : List SE) : SE := fun ρ M => mJs ms Str.empty ρ M
theorem snd_joined {ts : List TE} {ms : List SE} (s : SndJ K W ts ms) : Snd K W (fun σ H Q => tJs ts Str.empty σ H fun out H1 => Q (.str out) H1) (mJoined ms) := fun hid σ ρ M ad H Q k r h => js_run s k r h
/-- e.f, a property of the class c; what it does raises nothing -/
def mProp (c : Str) (n : Nat) (g : GF) (mo : SE) : SE := fun ρ M => (mo ρ M).bind fun d M1 => match insOf d M1 with
  | some (c', _, _) => if c' = c ∧ n = 1 then (g [d] M1).noX else .bad
  | none => .bad
theorem snd_prop {c : Str} {n : Nat} {g : GF} {to : TE} {mo : SE} (ho : Snd K W to mo) : Snd K W (tProp (He.ga K c) (spD K n g) [] (fun _ _ _ => False) to) (mProp c n g mo) := fun hid σ ρ M ad H Q k r h => by
  refine ho.step k r (pV K hid Q (wx W σ)) h fun d M1 v ad1 H1 f1 k1 rv r1 h1 => ?_
  cases e : insOf d M1 with
  | none =>
    rw [e] at h1
    exact h1.elim
  | some p =>
    obtain ⟨c', ns, vs⟩ := p
    rw [e] at h1
    have h2 : (pV K hid Q (wx W σ)).P M1 ad1 H1 (if c' = c ∧ n = 1 then (g [d] M1).noX else .bad) := h1
    by_cases hc : c' = c ∧ n = 1
    · rw [if_pos hc] at h2
      obtain ⟨rfl, rfl⟩ := hc
      obtain ⟨a, dx, es, g1, g2, _, _⟩ := insOf_rp k1 e rv
      subst g1
      refine ⟨a, dx, es, rfl, g2, hid, [d], M1, ad1, rfl, k1, RpL.cons rv RpL.nil, ?_⟩
      cases e3 : g [d] M1 with
      | ok d2 M2 =>
        rw [e3] at h2
        exact h2
      | exc c2 ns2 ds2 M2 =>
        rw [e3] at h2
        exact h2.elim
      | bad =>
        rw [e3] at h2
        exact h2.elim
    · rw [if_neg hc] at h2
      exact h2.elim
/-- nothing is raised -/
theorem passes_false {P : Program} {w : World} {X : Cx} (hp : X.prog = P) (hw : X.w = w) : Passes (L2.CX P w) X (fun _ _ _ => False) := fun pins σ H s e s' I c => by
  obtain ⟨_, _, _, _, _, _, _, _, _, _, _, _, q⟩ := c
  exact q.elim
inductive TyE where
  | bi (n : String) | own (c : Str)
  deriving DecidableEq
def TyE.val (K : PySem.W.Frag) : TyE → Value
  | .bi n => .type n
  | .own c => .ref (He.ga K c)
def tyE (d : D) (M : Mem) : Option TyE := match insOf d M with
  | some (c, _, _) => some (.own c)
  | none => (tyD d).map .bi
/-- an own class whose instances tell it -/
structure InsT (K : PySem.W.Frag) (C : Addr) : Prop where
  cl : Cls K C
  ha : PySem.W.findIn K (.ref C) "__class__" = some (some (.builtin "object.__class__"))
  hn : PySem.W.specialIn K (.builtin "object.__class__") "__get__" = some (some (.builtin "getset_descriptor.__get__"))
  ht : PySem.W.takesIn K (.builtin "object.__class__") = some true
  hm : PySem.W.mroIn K C (.type "object") = some true
def ownOk (cs : List Str) : TyE → Bool
  | .own x => decide (x ∈ cs)
  | .bi _ => true
def isiTab (tab : List (TyE × Str × Bool)) (t : TyE) (c : Str) : Option Bool := (tab.find? fun p => decide (p.1 = t ∧ p.2.1 = c)).map fun p => p.2.2
def fIsiE (cs : List Str) (tab : List (TyE × Str × Bool)) (c : Str) (o : Option TyE) (M : Mem) : Res D := match o with
  | some t => if ownOk cs t = true then (match isiTab tab t c with
    | some b => .ok (.bl b) M
    | none => .bad) else .bad
  | none => .bad
def fIsiO (cs : List Str) (tab : List (TyE × Str × Bool)) : List D → Mem → Res D := fun ds M => match ds with
  | [d, .cls c] => fIsiE cs tab c (tyE d M) M
  | _ => .bad
theorem tyE_ok {cs : List Str} (hC : ∀ c, c ∈ cs → InsT K (He.ga K c)) (k : Ok K hid M ad H) {d : D} {v : V} {t : TyE} (h : tyE d M = some t) (ho : ownOk cs t = true) (r : Rp K (wd hid M ad H) d v) : TyX K H v (t.val K) := by
  unfold tyE at h
  cases e : insOf d M with
  | some p =>
    obtain ⟨c, ns, vs⟩ := p
    rw [e] at h
    have ht : t = .own c := (Option.some.inj h).symm
    subst ht
    obtain ⟨a, dx, es, g1, g2, _, _⟩ := insOf_rp k e r
    subst g1
    have z := hC c (of_decide_eq_true ho)
    exact .base (.ins g2 z.cl z.ha z.hn z.ht z.hm)
  | none =>
    rw [e] at h
    have h' : (tyD d).map TyE.bi = some t := h
    cases e2 : tyD d with
    | none =>
      rw [e2] at h'
      cases h'
    | some n =>
      rw [e2] at h'
      have ht : t = .bi n := (Option.some.inj h').symm
      subst ht
      exact tyD_ok e2 r
theorem isiTab_mem {tab : List (TyE × Str × Bool)} {t : TyE} {c : Str} {b : Bool} (h : isiTab tab t c = some b) : (t, c, b) ∈ tab := by
  unfold isiTab at h
  cases e : tab.find? fun p => decide (p.1 = t ∧ p.2.1 = c) with
  | none =>
    rw [e] at h
    cases h
  | some p =>
    rw [e] at h
    have h1 := List.mem_of_find?_eq_some e
    have h2 : p.1 = t ∧ p.2.1 = c := of_decide_eq_true (show decide (p.1 = t ∧ p.2.1 = c) = true from List.find?_some (p := fun p : TyE × Str × Bool => decide (p.1 = t ∧ p.2.1 = c)) e)
    obtain ⟨p1, p2, p3⟩ := p
    have hb : p3 = b := Option.some.inj h
    obtain ⟨rfl, rfl⟩ := h2
    subst hb
    exact h1
theorem cb_isiO {cs : List Str} {tab : List (TyE × Str × Bool)} (hC : ∀ c, c ∈ cs → InsT K (He.ga K c)) (hT : ∀ p, p ∈ tab → PySem.W.kitOne K (p.1.val K) (.ref (He.ga K p.2.1)) = some p.2.2) : CbS K (rIsi K) (fIsiO cs tab) := fun hid M ad H ds vs Q E k rx q => by
  have key : (∃ d c, ds = [d, .cls c]) ∨ (pV K hid Q E).P M ad H .bad := by
    match ds, q with
    | [], q => exact .inr q
    | [_], q => exact .inr q
    | [d, e], q => cases e <;> first | exact .inl ⟨_, _, rfl⟩ | exact .inr q
    | d :: e :: _ :: _, q => cases e <;> exact .inr q
  rcases key with ⟨d, c, e⟩ | z
  · subst e
    obtain ⟨v, r1, e1, g1, g2⟩ := rx.consI
    obtain ⟨w, r2, e2, g3, g4⟩ := g2.consI
    have e3 := g4.nilI
    have e4 : w = .ref (He.ga K c) := by simpa only [Rp] using g3
    subst e1 e2 e3 e4
    have q' : (pV K hid Q E).P M ad H (fIsiE cs tab c (tyE d M) M) := q
    cases e5 : tyE d M with
    | none =>
      rw [e5] at q'
      exact q'.elim
    | some t =>
      rw [e5] at q'
      have q2 : (pV K hid Q E).P M ad H (if ownOk cs t = true then (match isiTab tab t c with
        | some b => .ok (.bl b) M
        | none => .bad) else .bad) := q'
      by_cases ho : ownOk cs t = true
      · rw [if_pos ho] at q2
        cases e6 : isiTab tab t c with
        | none =>
          rw [e6] at q2
          exact q2.elim
        | some b =>
          rw [e6] at q2
          exact ⟨v, .ref (He.ga K c), t.val K, .ref (He.ga K c), b, rfl, .own _, tyE_ok hC k e5 ho g1, hT _ (isiTab_mem e6), q2 _ ad H Fr.refl k (rp_bl _)⟩
      · rw [if_neg ho] at q2
        exact q2.elim
  · exact z.elim
theorem CbS.els {r : List V → Hp → VK → Prop} {f g : List D → Mem → Res D} (h : CbS K r f) (h' : CbS K r g) : CbS K r (fun ds M => (f ds M).els (g ds M)) := fun hid M ad H ds vs Q E k rx q0 => by
  have q : (pV K hid Q E).P M ad H ((f ds M).els (g ds M)) := q0
  cases e : f ds M with
  | bad =>
    rw [e] at q
    exact h' hid M ad H ds vs Q E k rx q
  | ok d M1 =>
    rw [e] at q
    exact h hid M ad H ds vs Q E k rx (by rw [e]; exact q)
  | exc c ns es M1 =>
    rw [e] at q
    exact h hid M ad H ds vs Q E k rx (by rw [e]; exact q)
end
end DL

end
section
set_option maxHeartbeats 4000000
namespace OWN
open PySem PySem.Spec PyProof.Rows
section
variable {M : Model} {prog : Program} {w : World} {A : Around} {E : Value → Shared → Prop} {s : Shared} {K : PySem.W.Frag} {x C f : Addr} {ox : Obj} {od : Option Obj} {b tb : Value}
theorem ifBound_objNe {args : List Value} {Q : Option Value → Shared → Prop} (X : K.In s.heap) (I : PySem.W.InstAt s.heap x ox C od) (hs : PySem.W.findIn K (.ref C) "__ne__" = some (some (.builtin "object.__ne__")))
    (h : wpAny M A (call (.builtin "object.__ne__") (.ref x :: args)) (fun v => Q (some v)) E s) : wpAny M A (callSpecialIfBound? (.ref x) "__ne__" args) Q E s := by
  simp only [callSpecialIfBound?, bindSpecialIfBound?]
  refine wpAny_holding (wpAny_bind (wpAny_bind (wpAny_bind (I.type.here ((PySem.W.looks_findIn X hs).here ?_)))))
  refine wpAny_bind (wpAny_askSetting (wpAny_ite ?_))
  have fin : wpAny M A (call (.builtin "object.__ne__") ([.ref x] ++ args) >>= fun v => pure (some v)) Q E s := wpAny_bind (wpAny_mono h (fun v s' h' => wpAny_pure h') fun _ _ h' => h')
  split
  · exact wpAny_bind (wpAny_of_eq (F.cmp_object.ne.bind _) (wpAny_pure (by exact fin)))
  · exact wpAny_tryCatch (wpAny_bind (wpAny_of_eq (F.cmp_object.ne.bind _) (wpAny_pure (by exact fin))))
theorem entry_ne {Q : Fin → Shared → Prop} (hu : A.units < cLine) (X : K.In s.heap) (I : PySem.W.InstAt s.heap x ox C od) (hs : PySem.W.findIn K (.ref C) "__eq__" = some (some (.ref f))) (hf : PySem.W.isFn K (.ref f) = true)
    (h : wpAny (model prog w) A (call (.ref f) [.ref x, b]) (fun v s' => ∃ r : Bool, v = .bool r ∧ Q (.done (.ret (.bool (!r)))) s') E s) : wpAny (model prog w) A (Builtin.«object.__ne__» ⟨[.ref x, b], []⟩) Q E s := by
  unfold Builtin.«object.__ne__»
  refine wpAny_bind (wpAny_of_eq (a := (.ref x, [b])) (by first | rfl | kernel_rfl) ?_)
  refine wpAny_bind (wpAny_cRoomFor hu ?_)
  refine wpAny_bind (m := callSpecialIfBound? (.ref x) (Str.ofString "__eq__") [b]) (PySem.W.ifBound_K X I hs hf (wpAny_mono h (fun v s' hv => ?_) fun _ _ e => e))
  obtain ⟨r, rfl, q⟩ := hv
  refine wpAny_bind (wpAny_truthy_bool ?_)
  exact wpAny_pure q
theorem cmp_ne {Q : Value → Shared → Prop} (hu : A.units < cLine) (hu1 : A.in1.units < cLine) (X : K.In s.heap) (I : PySem.W.InstAt s.heap x ox C od) (hb : PySem.W.Looks (model prog w) s.heap (typeOf b) tb) (hn : PySem.W.notFirst K C tb = true)
    (hm : PySem.W.mroIn K C (.type "object") = some true) (hne : PySem.W.findIn K (.ref C) "__ne__" = some (some (.builtin "object.__ne__"))) (hs : PySem.W.findIn K (.ref C) "__eq__" = some (some (.ref f))) (hf : PySem.W.isFn K (.ref f) = true)
    (h : wpAny (model prog w) A.in1 (call (.ref f) [.ref x, b]) (fun v s' => ∃ r : Bool, v = .bool r ∧ Q (.bool (!r)) s') E s) : wpAny (model prog w) A (richCompare .NotEq (.ref x) b) Q E s := by
  have one : wpAny (model prog w) A (tryCompare (.ref x) (cmpInfo .NotEq).2.1 b) (fun r s' => ∃ v, r = some v ∧ Q v s') E s := by
    unfold tryCompare
    refine wpAny_bind (m := callSpecialIfBound? (.ref x) (Str.ofString "__ne__") [b]) (ifBound_objNe X I hne (wpAny_call (codeAny_call_builtin F.cmp_object.ne.plain F.cmpEntry_ne (PySem.W.check_slot F.cmpKind_ne F.cmpSplit_ne (I.type.andThen (PySem.W.looks_mroIn X hm)) (F.cmpArgs_ne _ _) (entry_ne hu1 X I hs hf (wpAny_mono h (fun v s' hv => ?_) fun _ _ e => e))))))
    obtain ⟨r, rfl, q⟩ := hv
    exact ⟨r, rfl, wpAny_pure ⟨_, rfl, q⟩⟩
  unfold richCompare
  simp only [oneThing_ref]
  refine wpAny_holding (wpAny_bind (wpAny_cRoomFor hu ?_))
  refine wpAny_bind (I.type.here (wpAny_bind (hb.here ?_)))
  split
  · rename_i q
    have e : PySem.W.subIn K tb (.ref C) = some false := by
      rcases Bool.or_eq_true_iff.mp hn with e | e
      · rw [beq_iff_eq.mp e] at q; simp at q
      · exact beq_iff_eq.mp e
    refine wpAny_bind ((PySem.W.looks_subIn X e).here ?_)
    simp only [Bool.false_eq_true, if_false]
    refine wpAny_bind (wpAny_mono one (fun r s' z => ?_) fun _ _ e => e)
    obtain ⟨v, rfl, hq⟩ := z
    exact wpAny_pure hq
  · refine wpAny_bind (wpAny_pure ?_)
    simp only [Bool.false_eq_true, if_false]
    refine wpAny_bind (wpAny_mono one (fun r s' z => ?_) fun _ _ e => e)
    obtain ⟨v, rfl, hq⟩ := z
    exact wpAny_pure hq
/-- the reflected one is asked first: b's class is below a's -/
theorem cmp_first {y C2 : Addr} {oy : Obj} {ody : Option Obj} {Q : Value → Shared → Prop} (hu : A.units < cLine) (X : K.In s.heap) (I : PySem.W.InstAt s.heap x ox C od) (J : PySem.W.InstAt s.heap y oy C2 ody) (hn : (Value.ref C != Value.ref C2) = true) (hsub : PySem.W.subIn K (.ref C2) (.ref C) = some true)
    (hs : PySem.W.findIn K (.ref C2) "__eq__" = some (some (.ref f))) (hf : PySem.W.isFn K (.ref f) = true)
    (h : wpAny (model prog w) A (call (.ref f) [.ref y, .ref x]) (PySem.W.CmpBack Q) E s) : wpAny (model prog w) A (richCompare .Eq (.ref x) (.ref y)) Q E s := by
  have one : wpAny (model prog w) A (tryCompare (.ref y) (cmpInfo .Eq).2.2 (.ref x)) (fun r s' => ∃ v, r = some v ∧ Q v s') E s := by
    unfold tryCompare
    refine wpAny_bind (m := callSpecialIfBound? (.ref y) (Str.ofString "__eq__") [.ref x]) (PySem.W.ifBound_K X J hs hf (wpAny_mono h (fun v s' hv => ?_) fun _ _ e => e))
    cases v <;> first | exact hv.elim | exact wpAny_pure ⟨_, rfl, hv⟩
  unfold richCompare
  simp only [oneThing_ref]
  refine wpAny_holding (wpAny_bind (wpAny_cRoomFor hu ?_))
  refine wpAny_bind (I.type.here (wpAny_bind (J.type.here ?_)))
  rw [if_pos hn]
  refine wpAny_bind ((PySem.W.looks_subIn X hsub).here ?_)
  simp only [if_true]
  refine wpAny_bind (wpAny_mono one (fun r s' z => ?_) fun _ _ e => e)
  obtain ⟨v, rfl, hq⟩ := z
  exact wpAny_bind (wpAny_rule (wpAny_pure hq))
end
end OWN
namespace DL
open PySem PySem.Spec PyProof.Rows L2
/-- what is compared with: an instance, a text -/
inductive TyY (H : Hp) : V → Value → Prop where
  | ins {a C dx : Addr} {fs : List (Str × V)} (e : H a = some (.ins C dx fs)) : TyY H (.ref a) (.ref C)
  | str (z : Str) : TyY H (.str z) (.type "str")
section
variable {X : Cx} {CX : CXT} {n : Nat} {f C : Addr} {fd : FuncData} {ps : List Str} {sp : Sp}
theorem tyY_looks {M : Model} {pins : List (Addr × Obj)} {σ : L2.St} {H : Hp} {s : Shared} {y : V} {t u : Value} (I : Inv X pins σ H s) (h : TyY H y t) (r : RelV y u) : PySem.W.Looks M s.heap (typeOf u) t := by
  cases h with
  | ins e =>
    obtain rfl : u = Value.ref _ := r
    obtain ⟨mA, O, _⟩ := ins_get I.hok e
    obtain ⟨od, J, _⟩ := O.look
    exact J.type
  | str z =>
    obtain ⟨tk, rfl⟩ := r
    exact PySem.W.Looks.of_pure rfl
/-- what a class must have for == and != by its own __eq__ at f -/
structure EqC (K : PySem.W.Frag) (C f : Addr) : Prop where
  eq : PySem.W.findIn K (.ref C) "__eq__" = some (some (.ref f))
  ne : PySem.W.findIn K (.ref C) "__ne__" = some (some (.builtin "object.__ne__"))
  fn : PySem.W.isFn K (.ref f) = true
  ob : PySem.W.mroIn K C (.type "object") = some true
def rEqOwn (K : PySem.W.Frag) (C : Addr) (neg : Bool) (sp : Sp) : R2 := fun x y H Q => ∃ a dx fs t, x = .ref a ∧ H a = some (.ins C dx fs) ∧ TyY H y t ∧ PySem.W.notFirst K C t = true ∧ sp [x, y] H (fun v H' => ∃ b : Bool, v = .bl b ∧ Q (.bl (if neg then !b else b)) H') fun _ _ _ => False
theorem own_call {A : Around} {pins : List (Addr × Obj)} {σ : L2.St} {H : Hp} {s : Shared} {us : List Value} {vs : List V} {Q : VK} {E' : Value → Shared → Prop} (F : FnOk X.prog X.w X.K X.mg X.base CX n f fd ps sp) (hb : Binds X.K fd ps []) (hx : Passes CX X.nox fun _ _ _ => False) (hr : Room n A) (hfr : A.frames = some X.stack)
    (I : Inv X pins σ H s) (r : Vals vs us) (h : sp vs H Q fun _ _ _ => False) : wpAny (model X.prog X.w) A (call (.ref f) us) (EP X pins σ Q) E' s := by
  have e0 : Env0 X.prog X.w X.K X.mg X.base A X.stack s H := by
    have e := I.env0
    exact ⟨hfr, e.mod, e.bs, e.bsz, e.funs, e.frf, e.hok, e.bare⟩
  have hl : (us ++ []).length = ps.length := by
    rw [List.append_nil, ← r.length]
    exact F.len _ _ _ _ h
  have hb' := hb s us I.kIn hl
  rw [List.append_nil] at hb'
  refine wpAny_call (codeAny_mono (F.run A X.stack s H ⟨us, []⟩ us vs Q _ hr e0 hb' r h) fun r s' hq => ?_)
  cases r with
  | error e => exact False.elim (hx pins σ H s e s' (I.wish _) hq)
  | ok fl =>
    cases fl with
    | ret u => exact I.after hq
    | next => exact False.elim hq
    | brk => exact False.elim hq
    | cont => exact False.elim hq
theorem op_eqOwn (c : EqC X.K C f) (F : FnOk X.prog X.w X.K X.mg X.base CX n f fd ps sp) (hb : Binds X.K fd ps []) (hx : Passes CX X.nox fun _ _ _ => False) (hr : Room n X.A) : OpR X (compareOp .Eq) (rEqOwn X.K C false sp) := by
  intro pins s σ H x y v u Q I rx ry h
  obtain ⟨a, dx, fs, t, rfl, ha, ty, nf, hsp⟩ := h
  obtain rfl : v = Value.ref a := rx
  obtain ⟨mA, O, _⟩ := ins_get I.hok ha
  obtain ⟨od, J, _⟩ := O.look
  obtain ⟨m, hF⟩ := I.fr
  show wpAny (model X.prog X.w) X.A (richCompare .Eq (.ref a) u) (EP X pins σ Q) X.xe s
  refine PySem.W.cmp_K (op := .Eq) hr.units0 hF I.ok.mod.kin J (tyY_looks I ty ry) nf c.eq c.fn ?_
  refine wpAny_mono (own_call F hb hx hr I.env0.frames I (.cons (show RelV (.ref a) (.ref a) from rfl) (.cons ry .nil)) hsp) (fun w s' hw => ?_) fun _ _ z => z
  obtain ⟨z, H', I', rz, b, rfl, q⟩ := hw
  obtain rfl : w = Value.bool b := rz
  exact ⟨.bl b, H', I', rfl, q⟩
theorem op_neOwn (c : EqC X.K C f) (F : FnOk X.prog X.w X.K X.mg X.base CX n f fd ps sp) (hb : Binds X.K fd ps []) (hx : Passes CX X.nox fun _ _ _ => False) (hr : Room (n + 1) X.A) : OpR X (compareOp .NotEq) (rEqOwn X.K C true sp) := by
  intro pins s σ H x y v u Q I rx ry h
  obtain ⟨a, dx, fs, t, rfl, ha, ty, nf, hsp⟩ := h
  obtain rfl : v = Value.ref a := rx
  obtain ⟨mA, O, _⟩ := ins_get I.hok ha
  obtain ⟨od, J, _⟩ := O.look
  show wpAny (model X.prog X.w) X.A (richCompare .NotEq (.ref a) u) (EP X pins σ Q) X.xe s
  refine OWN.cmp_ne hr.units0 hr.in1.units0 I.kIn J (tyY_looks I ty ry) nf c.ob c.ne c.eq c.fn ?_
  refine wpAny_mono (own_call F hb hx hr.in1 I.env0.frames I (.cons (show RelV (.ref a) (.ref a) from rfl) (.cons ry .nil)) hsp) (fun w s' hw => ?_) fun _ _ z => z
  obtain ⟨z, H', I', rz, b, rfl, q⟩ := hw
  obtain rfl : w = Value.bool b := rz
  exact ⟨b, rfl, .bl (!b), H', I', rfl, q⟩
/-- the right one's class is below the left one's -/
def rEqFst (K : PySem.W.Frag) (C C2 : Addr) (sp : Sp) : R2 := fun x y H Q => ∃ a b dx dy fs gs, x = .ref a ∧ y = .ref b ∧ H a = some (.ins C dx fs) ∧ H b = some (.ins C2 dy gs) ∧ C ≠ C2 ∧ PySem.W.subIn K (.ref C2) (.ref C) = some true ∧ sp [y, x] H (fun v H' => ∃ b : Bool, v = .bl b ∧ Q (.bl b) H') fun _ _ _ => False
theorem op_eqFst {C2 : Addr} (c : EqC X.K C2 f) (F : FnOk X.prog X.w X.K X.mg X.base CX n f fd ps sp) (hb : Binds X.K fd ps []) (hx : Passes CX X.nox fun _ _ _ => False) (hr : Room n X.A) : OpR X (compareOp .Eq) (rEqFst X.K C C2 sp) := by
  intro pins s σ H x y v u Q I rx ry h
  obtain ⟨a, b, dx, dy, fs, gs, rfl, rfl, ha, hb2, nc, hsub, hsp⟩ := h
  obtain rfl : v = Value.ref a := rx
  obtain rfl : u = Value.ref b := ry
  obtain ⟨mA, O, _⟩ := ins_get I.hok ha
  obtain ⟨od, J, _⟩ := O.look
  obtain ⟨mB, O2, _⟩ := ins_get I.hok hb2
  obtain ⟨od2, J2, _⟩ := O2.look
  show wpAny (model X.prog X.w) X.A (richCompare .Eq (.ref a) (.ref b)) (EP X pins σ Q) X.xe s
  refine OWN.cmp_first hr.units0 I.kIn J J2 (by simpa using nc) hsub c.eq c.fn ?_
  refine wpAny_mono (own_call F hb hx hr I.env0.frames I (.cons (show RelV (.ref b) (.ref b) from rfl) (.cons (show RelV (.ref a) (.ref a) from rfl) .nil)) hsp) (fun w s' hw => ?_) fun _ _ z => z
  obtain ⟨z, H', I', rz, b, rfl, q⟩ := hw
  obtain rfl : w = Value.bool b := rz
  exact ⟨.bl b, H', I', rfl, q⟩
/-- repr(x) by an own __repr__ -/
def rReprOwn (C : Addr) (sp : Sp) : List V → Hp → VK → Prop := fun xs H Q => ∃ a dx fs, xs = [.ref a] ∧ H a = some (.ins C dx fs) ∧ sp [.ref a] H (fun v H' => ∃ z : Str, v = .str z ∧ Q (.str z) H') fun _ _ _ => False
theorem call_reprOwn (hs : PySem.W.findIn X.K (.ref C) "__repr__" = some (some (.ref f))) (hf : PySem.W.isFn X.K (.ref f) = true) (F : FnOk X.prog X.w X.K X.mg X.base CX n f fd ps sp) (hb : Binds X.K fd ps []) (hx : Passes CX X.nox fun _ _ _ => False) (hr : Room (n + 1) X.A) :
    CallR X (.builtin "repr") (rReprOwn C sp) := by
  intro pins s σ H us vs Q I r h
  obtain ⟨a, dx, fs, rfl, ha, hsp⟩ := h
  obtain ⟨mA, O, _⟩ := ins_get I.hok ha
  obtain ⟨od, J, _⟩ := O.look
  obtain ⟨m, hF⟩ := I.fr
  cases r with
  | cons r1 rr =>
    cases rr
    cases r1
    refine PySem.W.repr_K hr.in1.units0 hF I.ok.mod.kin J hs hf ?_
    refine wpAny_mono (own_call F hb hx hr.in1 I.env0.frames I (.cons (show RelV (.ref a) (.ref a) from rfl) .nil) hsp) (fun w s' hw => ?_) fun _ _ z => z
    obtain ⟨z, H', I', rz, t, rfl, q⟩ := hw
    obtain ⟨tk, rfl⟩ := rz
    exact ⟨.str t, H', I', ⟨tk, rfl⟩, q⟩
end
end DL

end
section
set_option maxHeartbeats 4000000
namespace DL
open PySem PySem.Spec PyProof.Rows L2
section
variable {K : PySem.W.Frag} {hid : Addr → Prop} {M M1 : Mem} {ad ad1 : List Addr} {H H1 : Hp} {σ : L2.St} {ρ : Rho} {W : WX}
/-- what stands on the right: an instance, a text -/
def tyR (d : D) (M : Mem) : Option TyE := match d with
  | .str _ => some (.bi "str")
  | _ => (insOf d M).map fun p => .own p.1
theorem tyR_ok (k : Ok K hid M ad H) {d : D} {v : V} {t : TyE} (h : tyR d M = some t) (r : Rp K (wd hid M ad H) d v) : TyY H v (t.val K) := by
  have go : (insOf d M).map (fun p => TyE.own p.1) = some t → TyY H v (t.val K) := fun h => by
    cases e : insOf d M with
    | none =>
      rw [e] at h
      cases h
    | some p =>
      obtain ⟨c, ns, ds⟩ := p
      rw [e] at h
      have ht : t = .own c := (Option.some.inj h).symm
      subst ht
      obtain ⟨a, dx, es, g1, g2, _, _⟩ := insOf_rp k e r
      subst g1
      exact .ins g2
  cases d with
  | str z =>
    have ht : t = .bi "str" := (Option.some.inj h).symm
    subst ht
    have e : v = .str z := by simpa only [Rp] using r
    subst e
    exact .str z
  | _ => exact go h
def ownEnd (neg : Bool) (r : Res D) : Res D := r.noX.bind fun d M1 => match d with
  | .bl b => .ok (.bl (if neg then !b else b)) M1
  | _ => .bad
/-- x == y by the own __eq__ of the class c; rs: what may stand on the right -/
def fEqOwn (c : Str) (neg : Bool) (rs : List TyE) (g : GF) : D → D → Mem → Res D := fun x y M => match insOf x M, tyR y M with
  | some (c', _, _), some t => if c' = c ∧ t ∈ rs then ownEnd neg (g [x, y] M) else .bad
  | _, _ => .bad
theorem own_sp {neg : Bool} {g : GF} {ds : List D} {vs : List V} {Q : VK} {E : XK} {n : Nat} (k : Ok K hid M ad H) (r : RpL K (wd hid M ad H) ds vs) (hn : ds.length = n) (h : (pV K hid Q E).P M ad H (ownEnd neg (g ds M))) :
    spD K n g vs H (fun v H' => ∃ b : Bool, v = .bl b ∧ Q (.bl (if neg then !b else b)) H') fun _ _ _ => False := by
  refine ⟨hid, ds, M, ad, hn, k, r, ?_⟩
  cases e : g ds M with
  | bad =>
    rw [e] at h
    exact h.elim
  | exc c ns es M2 =>
    rw [e] at h
    exact h.elim
  | ok d M2 =>
    rw [e] at h
    intro v ad2 H2 f2 k2 rv
    cases d with
    | bl b =>
      have ev : v = .bl b := by simpa only [Rp] using rv
      exact ⟨b, ev, (show (pV K hid Q E).P M ad H (.ok (.bl (if neg then !b else b)) M2) from h) _ ad2 H2 f2 k2 (rp_bl _)⟩
    | _ => exact h.elim
theorem ops_eqOwn {c : Str} {neg : Bool} {rs : List TyE} {g : GF} (hr : ∀ t, t ∈ rs → PySem.W.notFirst K (He.ga K c) (t.val K) = true) : OpS K (rEqOwn K (He.ga K c) neg (spD K 2 g)) (fEqOwn c neg rs g) := fun hid M ad H dx dy x y Q E k rx ry q => by
  unfold fEqOwn at q
  cases e1 : insOf dx M with
  | none =>
    rw [e1] at q
    exact q.elim
  | some p =>
    obtain ⟨c', ns, ds⟩ := p
    rw [e1] at q
    cases e2 : tyR dy M with
    | none =>
      rw [e2] at q
      exact q.elim
    | some t =>
      rw [e2] at q
      have q2 : (pV K hid Q E).P M ad H (if c' = c ∧ t ∈ rs then ownEnd neg (g [dx, dy] M) else .bad) := q
      by_cases hc : c' = c ∧ t ∈ rs
      · rw [if_pos hc] at q2
        obtain ⟨rfl, ht⟩ := hc
        obtain ⟨a, d0, es, g1, g2, _, _⟩ := insOf_rp k e1 rx
        subst g1
        exact ⟨a, d0, es, t.val K, rfl, g2, tyR_ok k e2 ry, hr t ht, own_sp k (RpL.cons rx (RpL.cons ry RpL.nil)) rfl q2⟩
      · rw [if_neg hc] at q2
        exact q2.elim
/-- the right one's class c2 is below the left one's -/
def fEqFst (c c2 : Str) (g : GF) : D → D → Mem → Res D := fun x y M => match insOf x M, insOf y M with
  | some (a, _, _), some (b, _, _) => if a = c ∧ b = c2 then ownEnd false (g [y, x] M) else .bad
  | _, _ => .bad
theorem ops_eqFst {c c2 : Str} {g : GF} (hne : He.ga K c ≠ He.ga K c2) (hsub : PySem.W.subIn K (.ref (He.ga K c2)) (.ref (He.ga K c)) = some true) : OpS K (rEqFst K (He.ga K c) (He.ga K c2) (spD K 2 g)) (fEqFst c c2 g) := fun hid M ad H dx dy x y Q E k rx ry q => by
  unfold fEqFst at q
  cases e1 : insOf dx M with
  | none =>
    rw [e1] at q
    exact q.elim
  | some p =>
    obtain ⟨c', ns, ds⟩ := p
    rw [e1] at q
    cases e2 : insOf dy M with
    | none =>
      rw [e2] at q
      exact q.elim
    | some p2 =>
      obtain ⟨c'', ns2, ds2⟩ := p2
      rw [e2] at q
      have q2 : (pV K hid Q E).P M ad H (if c' = c ∧ c'' = c2 then ownEnd false (g [dy, dx] M) else .bad) := q
      by_cases hc : c' = c ∧ c'' = c2
      · rw [if_pos hc] at q2
        obtain ⟨rfl, rfl⟩ := hc
        obtain ⟨a, d0, es, g1, g2, _, _⟩ := insOf_rp k e1 rx
        obtain ⟨b, d1, es1, g3, g4, _, _⟩ := insOf_rp k e2 ry
        subst g1 g3
        exact ⟨a, b, d0, d1, es, es1, rfl, rfl, g2, g4, hne, hsub, own_sp (neg := false) k (RpL.cons ry (RpL.cons rx RpL.nil)) rfl q2⟩
      · rw [if_neg hc] at q2
        exact q2.elim
/-- repr(x) -/
def strEnd (r : Res D) : Res D := r.noX.bind fun d M1 => match d with
  | .str z => .ok (.str z) M1
  | _ => .bad
def fReprOwn (c : Str) (g : GF) : D → Mem → Res D := fun d M => match insOf d M with
  | some (c', _, _) => if c' = c then strEnd (g [d] M) else .bad
  | none => .bad
theorem cb_reprOwn {c : Str} {g : GF} : CbS K (rReprOwn (He.ga K c) (spD K 1 g)) (f1 (fReprOwn c g)) := cb1 fun hid M ad H d v Q E k r q => by
  unfold fReprOwn at q
  cases e1 : insOf d M with
  | none =>
    rw [e1] at q
    exact q.elim
  | some p =>
    obtain ⟨c', ns, ds⟩ := p
    rw [e1] at q
    have q2 : (pV K hid Q E).P M ad H (if c' = c then strEnd (g [d] M) else .bad) := q
    by_cases hc : c' = c
    · rw [if_pos hc] at q2
      subst hc
      obtain ⟨a, d0, es, g1, g2, _, _⟩ := insOf_rp k e1 r
      subst g1
      refine ⟨a, d0, es, rfl, g2, hid, [d], M, ad, rfl, k, RpL.cons r RpL.nil, ?_⟩
      cases e : g [d] M with
      | bad =>
        rw [e] at q2
        exact q2.elim
      | exc c ns es M2 =>
        rw [e] at q2
        exact q2.elim
      | ok d2 M2 =>
        rw [e] at q2
        intro w ad2 H2 f2 k2 rw_
        cases d2 with
        | str z =>
          have ev : w = .str z := by simpa only [Rp] using rw_
          exact ⟨z, ev, (show (pV K hid Q E).P M ad H (.ok (.str z) M2) from q2) _ ad2 H2 f2 k2 (rp_str _)⟩
        | _ => exact q2.elim
    · rw [if_neg hc] at q2
      exact q2.elim
/-- str(x): ints and texts -/
def fStr1 : D → Mem → Res D := fun d M => match d with
  | .int i => if i.natAbs.log2 < 1920 then .ok (.str (toString i)) M else .bad
  | .str z => .ok (.str z) M
  | _ => .bad
theorem cb_str1 : CbS K (fun xs H Q => (∃ i : Int, xs = [.int i] ∧ i.natAbs.log2 < 1920 ∧ Q (.str (toString i)) H) ∨ ∃ a, xs = [.str a] ∧ Q (.str a) H) (f1 fStr1) := cb1 fun hid M ad H d v Q E k r q => by
  cases d with
  | int i =>
    have e : v = .int i := by simpa only [Rp] using r
    subst e
    have q2 : (pV K hid Q E).P M ad H (if i.natAbs.log2 < 1920 then .ok (.str (toString i)) M else .bad) := q
    by_cases c : i.natAbs.log2 < 1920
    · rw [if_pos c] at q2
      exact .inl ⟨i, rfl, c, q2 _ ad H Fr.refl k (rp_str _)⟩
    · rw [if_neg c] at q2
      exact q2.elim
  | str z =>
    have e : v = .str z := by simpa only [Rp] using r
    subst e
    exact .inr ⟨z, rfl, q _ ad H Fr.refl k (rp_str _)⟩
  | _ => exact q.elim
/-- max(i, j), min(i, j) -/
def fMax2 : List D → Mem → Res D := fun ds M => match ds with
  | [.int i, .int j] => .ok (.int (if j > i then j else i)) M
  | _ => .bad
def fMin2 : List D → Mem → Res D := fun ds M => match ds with
  | [.int i, .int j] => .ok (.int (if j < i then j else i)) M
  | _ => .bad
theorem two_ints {P : Prop} {ds : List D} {vs : List V} {W' : Wd} (rx : RpL K W' ds vs) (h : (∃ i j, ds = [.int i, .int j]) ∨ P) : (∃ i j, ds = [.int i, .int j] ∧ vs = [.int i, .int j]) ∨ P := by
  rcases h with ⟨i, j, e⟩ | h
  · subst e
    obtain ⟨v, r1, e1, g1, g2⟩ := rx.consI
    obtain ⟨w, r2, e2, g3, g4⟩ := g2.consI
    have e3 := g4.nilI
    have e4 : v = .int i := by simpa only [Rp] using g1
    have e5 : w = .int j := by simpa only [Rp] using g3
    subst e1 e2 e3 e4 e5
    exact .inl ⟨i, j, rfl, rfl⟩
  · exact .inr h
theorem cb_max2 : CbS K (fun xs H Q => ∃ i j, xs = [.int i, .int j] ∧ Q (.int (if j > i then j else i)) H) fMax2 := fun hid M ad H ds vs Q E k rx q => by
  have key : (∃ i j, ds = [.int i, .int j]) ∨ (pV K hid Q E).P M ad H .bad := by
    match ds, q with
    | [], q => exact .inr q
    | [a], q => cases a <;> exact .inr q
    | [a, b], q => cases a <;> first | exact .inr q | (cases b <;> first | exact .inl ⟨_, _, rfl⟩ | exact .inr q)
    | a :: b :: _ :: _, q => cases a <;> first | exact .inr q | (cases b <;> exact .inr q)
  rcases two_ints rx key with ⟨i, j, e, e2⟩ | z
  · subst e e2
    exact ⟨i, j, rfl, q _ ad H Fr.refl k (rp_int _)⟩
  · exact z.elim
theorem cb_min2 : CbS K (fun xs H Q => ∃ i j, xs = [.int i, .int j] ∧ Q (.int (if j < i then j else i)) H) fMin2 := fun hid M ad H ds vs Q E k rx q => by
  have key : (∃ i j, ds = [.int i, .int j]) ∨ (pV K hid Q E).P M ad H .bad := by
    match ds, q with
    | [], q => exact .inr q
    | [a], q => cases a <;> exact .inr q
    | [a, b], q => cases a <;> first | exact .inr q | (cases b <;> first | exact .inl ⟨_, _, rfl⟩ | exact .inr q)
    | a :: b :: _ :: _, q => cases a <;> first | exact .inr q | (cases b <;> exact .inr q)
  rcases two_ints rx key with ⟨i, j, e, e2⟩ | z
  · subst e e2
    exact ⟨i, j, rfl, q _ ad H Fr.refl k (rp_int _)⟩
  · exact z.elim
/-- list(x), tuple(x) of lists and tuples -/
def fList1 : D → Mem → Res D := fun d M => match seqOf d with
  | some ds => .ok (.lst ds) M
  | none => .bad
theorem cb_list1 : CbS K (fun xs H Q => ∃ p ys, xs = [.ref p] ∧ (SqL K H p ys ∨ SqT K H p ys) ∧ ∀ l, H l = none → Q (.ref l) (upd H l (.lst ys))) (f1 fList1) := cb1 fun hid M ad H d v Q E k r q => by
  unfold fList1 at q
  cases e : seqOf d with
  | none =>
    rw [e] at q
    exact q.elim
  | some ds =>
    rw [e] at q
    obtain ⟨p, vs, e1, e2, e3⟩ := seqOf_rp e r
    subst e1
    refine ⟨p, vs, rfl, e2, fun l hl => ?_⟩
    obtain ⟨f2, k2, r2⟩ := new_lst k hl e3
    exact q _ ad _ f2 k2 r2
def fTuple1 : D → Mem → Res D := fun d M => match d with
  | .lst ds => .ok (.tup ds) M
  | .tup ds => .ok (.tup ds) M
  | _ => .bad
theorem cb_tuple1 : CbS K (fun xs H Q => ∃ p ys, xs = [.ref p] ∧ ((SqL K H p ys ∧ ∀ l, H l = none → Q (.ref l) (upd H l (.tup ys))) ∨ (SqT K H p ys ∧ Q (.ref p) H))) (f1 fTuple1) := cb1 fun hid M ad H d v Q E k r q => by
  cases d with
  | lst ds =>
    simp only [Rp] at r
    obtain ⟨a, vs, e, l1, l2⟩ := r
    subst e
    refine ⟨a, vs, rfl, .inl ⟨SqL.of l1.1, fun l hl => ?_⟩⟩
    obtain ⟨f2, k2, r2⟩ := new_tup k hl l2
    exact q _ ad _ f2 k2 r2
  | tup ds =>
    have r' := r
    simp only [Rp] at r
    obtain ⟨a, vs, e, l1, l2⟩ := r
    subst e
    exact ⟨a, vs, rfl, .inr ⟨l1.sq, q _ ad H Fr.refl k r'⟩⟩
  | _ => exact q.elim
/-- sum, max, min of a list of ints -/
def intsOf : List D → Option (List Int)
  | [] => some []
  | .int i :: r => (intsOf r).map (i :: ·)
  | _ :: _ => none
theorem intsOf_rp {W' : Wd} : ∀ {ds : List D} {ns : List Int} {vs : List V}, intsOf ds = some ns → RpL K W' ds vs → vs = ns.map V.int
  | [], ns, vs, h, r => by
    have e := Option.some.inj h
    rw [← e, r.nilI]
    rfl
  | d :: ds, ns, vs, h, r => by
    cases d with
    | int i =>
      have h' : (intsOf ds).map (i :: ·) = some ns := h
      cases e : intsOf ds with
      | none =>
        rw [e] at h'
        cases h'
      | some ms =>
        rw [e] at h'
        have e2 : i :: ms = ns := Option.some.inj h'
        obtain ⟨v, r1, e1, g1, g2⟩ := r.consI
        have e4 : v = .int i := by simpa only [Rp] using g1
        rw [e1, e4, intsOf_rp e g2, ← e2]
        rfl
    | _ => cases h
def fSum1 : D → Mem → Res D := fun d M => match d with
  | .lst ds => (match intsOf ds with
    | some ns => .ok (.int ns.sum) M
    | none => .bad)
  | _ => .bad
theorem cb_sum1 : CbS K (rSum K) (f1 fSum1) := cb1 fun hid M ad H d v Q E k r q => by
  cases d with
  | lst ds =>
    simp only [Rp] at r
    obtain ⟨a, vs, e, l1, l2⟩ := r
    have q2 : (pV K hid Q E).P M ad H (match intsOf ds with
      | some ns => .ok (.int ns.sum) M
      | none => .bad) := q
    cases e2 : intsOf ds with
    | none =>
      rw [e2] at q2
      exact q2.elim
    | some ns =>
      rw [e2] at q2
      have e3 := intsOf_rp e2 l2
      subst e e3
      exact ⟨a, ns, rfl, SqL.of l1.1, q2 _ ad H Fr.refl k (rp_int _)⟩
  | _ => exact q.elim
def fExt1 (up : Bool) : D → Mem → Res D := fun d M => match d with
  | .lst ds => (match intsOf ds with
    | some (n :: ns) => .ok (.int (ns.foldl (fun a b => if up then max a b else min a b) n)) M
    | _ => .bad)
  | _ => .bad
theorem foldl_max : ∀ (ns : List Int) (n m : Int), (m = n ∨ m ∈ ns) → (∀ y, y = n ∨ y ∈ ns → y ≤ m) → ns.foldl (fun a b => max a b) n = m
  | [], n, m, h1, h2 => by
    rcases h1 with h1 | h1
    · exact h1.symm
    · cases h1
  | x :: r, n, m, h1, h2 => by
    refine foldl_max r (max n x) m ?_ ?_
    · rcases h1 with h1 | h1
      · have := h2 x (.inr (List.mem_cons_self ..))
        left
        omega
      · cases h1 with
        | head =>
          have := h2 n (.inl rfl)
          left
          omega
        | tail _ h1 => exact .inr h1
    · intro y hy
      rcases hy with hy | hy
      · have h3 := h2 n (.inl rfl)
        have h4 := h2 x (.inr (List.mem_cons_self ..))
        omega
      · exact h2 y (.inr (List.mem_cons_of_mem _ hy))
theorem foldl_min : ∀ (ns : List Int) (n m : Int), (m = n ∨ m ∈ ns) → (∀ y, y = n ∨ y ∈ ns → m ≤ y) → ns.foldl (fun a b => min a b) n = m
  | [], n, m, h1, h2 => by
    rcases h1 with h1 | h1
    · exact h1.symm
    · cases h1
  | x :: r, n, m, h1, h2 => by
    refine foldl_min r (min n x) m ?_ ?_
    · rcases h1 with h1 | h1
      · have := h2 x (.inr (List.mem_cons_self ..))
        left
        omega
      · cases h1 with
        | head =>
          have := h2 n (.inl rfl)
          left
          omega
        | tail _ h1 => exact .inr h1
    · intro y hy
      rcases hy with hy | hy
      · have h3 := h2 n (.inl rfl)
        have h4 := h2 x (.inr (List.mem_cons_self ..))
        omega
      · exact h2 y (.inr (List.mem_cons_of_mem _ hy))
theorem ext_key {up : Bool} {ds : List D} {vs : List V} {v : V} {d : D} {Q : VK} {E : XK} (k : Ok K hid M ad H) (r : Rp K (wd hid M ad H) d v) (q : (pV K hid Q E).P M ad H (fExt1 up d M)) :
    ∃ (a : Addr) (n : Int) (ns : List Int), v = .ref a ∧ SqL K H a ((n :: ns).map V.int) ∧ Q (.int (ns.foldl (fun a b => if up then max a b else min a b) n)) H := by
  cases d with
  | lst ds =>
    simp only [Rp] at r
    obtain ⟨a, vs, e, l1, l2⟩ := r
    have q2 : (pV K hid Q E).P M ad H (match intsOf ds with
      | some (n :: ns) => .ok (.int (ns.foldl (fun a b => if up then max a b else min a b) n)) M
      | _ => .bad) := q
    cases e2 : intsOf ds with
    | none =>
      rw [e2] at q2
      exact q2.elim
    | some l =>
      rw [e2] at q2
      cases l with
      | nil => exact q2.elim
      | cons n ns =>
        have e3 := intsOf_rp e2 l2
        subst e e3
        exact ⟨a, n, ns, rfl, SqL.of l1.1, q2 _ ad H Fr.refl k (rp_int _)⟩
  | _ => exact q.elim
theorem cb_maxL : CbS K (rMax K) (f1 (fExt1 true)) := cb1 fun hid M ad H d v Q E k r q => by
  obtain ⟨a, n, ns, e, l, q⟩ := ext_key (ds := []) (vs := []) k r q
  subst e
  refine ⟨a, n :: ns, rfl, l, Nat.succ_pos _, fun m h1 h2 => ?_⟩
  have := foldl_max ns n m (by simpa using h1) fun y hy => h2 y (by simpa using hy)
  rw [← this]
  exact q
theorem cb_minL : CbS K (rMin K) (f1 (fExt1 false)) := cb1 fun hid M ad H d v Q E k r q => by
  obtain ⟨a, n, ns, e, l, q⟩ := ext_key (ds := []) (vs := []) k r q
  subst e
  refine ⟨a, n :: ns, rfl, l, Nat.succ_pos _, fun m h1 h2 => ?_⟩
  have := foldl_min ns n m (by simpa using h1) fun y hy => h2 y (by simpa using hy)
  rw [← this]
  exact q
end
end DL

end
section
set_option maxHeartbeats 4000000
namespace SU
open PySem PySem.Spec PyProof.Rows L2 NdefX DL StX
section
variable {CX : CXT} {P : Program} {w : World} {K : PySem.W.Frag} {mg : Str → Option Value} {base : Heap} {x qual : Str} {params : Arguments} {body : List Stmt} {scope : Scope} {dvs : List V} {kws : List (Str × V)} {file : Str} {D f cc cda : Addr} {fd : FuncData} {N ps ks : List Str} {k np : Nat}
theorem cells_cl {A : Around} {outer : List Env} {s : Shared} {H : Hp} (e0 : Env0 P w K mg base A outer s H) (F : FunS K x qual params body scope dvs kws file D f cc cda fd) : CellsAt (nf x qual params body scope cc cda).cl ["__class__"] [some (.ref D)] s.heap H := by
  obtain ⟨cl, cld, csl, hcell⟩ := F.cell
  have hc0 := (e0.bs _ _ (e0.mod.kin _ _ hcell))
  have one : ∀ y c, (nf x qual params body scope cc cda).cl.lookup y = some c → y = "__class__" ∧ c = cc := by
    intro y c e
    have e' : (match y == ("__class__" : Str) with | true => some cc | false => none) = some c := by
      have e2 : List.lookup y [(("__class__" : Str), cc)] = some c := e
      rw [List.lookup_cons] at e2
      exact e2
    cases q : (y == ("__class__" : Str)) with
    | true =>
      rw [q] at e'
      exact ⟨eq_of_beq q, (Option.some.inj e').symm⟩
    | false =>
      rw [q] at e'
      cases e'
  refine ⟨rfl, fun y c e => ?_, fun y z c e1 e2 => (one y c e1).1.trans (one z c e2).1.symm, fun i y e => ?_⟩
  · obtain ⟨_, rfl⟩ := one y c e
    exact ⟨hc0.2, _, _, hc0.1, rfl⟩
  · cases i with
    | zero =>
      have ey : y = "__class__" := (Option.some.inj e).symm
      subst ey
      refine ⟨cc, rfl, fun v e2 => ?_⟩
      have ev : v = .ref D := by
        have := Option.some.inj (Option.some.inj e2)
        exact this.symm
      subst ev
      exact ⟨.ref D, rfl, _, hc0.1, rfl⟩
    | succ i => cases e
theorem run_bndS {A : Around} {outer : List Env} {s : Shared} {H : Hp} {args : Args} {Q : VK} {E : XK} {G : List V → Hp → Prop} (F : FunS K x qual params body scope dvs kws file D f cc cda fd) (S : NScope N ps ["__class__"] scope) (hr : Room (k + 1) A) (e0 : Env0 P w K mg base A outer s H)
    (hb : Bnd CX P w K mg base fd args ps A outer s H E G)
    (hbody : ∀ (s2 : Shared) (H2 : Hp) (vs : List V), G vs H2 → Room k (A.deeper (envF (nf x qual params body scope cc cda) f s2.heap.objs.size)) →
      ∃ t, PSAs (ncx CX P w K mg base N (nf x qual params body scope cc cda) f A outer s2 H2 E) body body t ∧ t { nx := fun _ H' => Q .non H', rt := Q } (startF N vs [some (.ref D)]) H2) : codeAny (model P w) A (.call (.ref f) args) (CR CX outer P w H s Q E) s := by
  obtain ⟨oc, od, dV, kV, doc, pm, an, ct, osl, rfl, lk, hcd, hD, hK⟩ := F.ex
  have KX : K.In s.heap := e0.mod.kin.keeps fun b o e => (e0.bs b o e).1
  refine codeAny_call_function hr.depth (KX _ _ lk) rfl S.co S.gen rfl (PySem.W.codeRec_of KX hcd) ?_
  refine hb _ _ _ fun s2 H2 vs us e2 un ho hx r hl g => ?_
  have lim : s2.heap.NoLimit := e0.mod.nolimit.keeps fun b o e => (e2.bs b o e).1
  refine wpAny_newFunctionEnv S.nocell (fun ⟨n, _⟩ hy => S.par n (List.of_mem_zip hy).1) (fun h₁ hns hsb => ⟨lim.fresh _ hsb, ?_⟩) S.kind
  have kp : ∀ b o, s2.heap.get? b = some o → h₁.get? b = some o := fun b o e => hsb.extBut b o (Nat.ne_of_lt (Heap.lt_size e)) (Heap.get?_push_of_some _ e)
  obtain ⟨t, ht, hq⟩ := hbody s2 H2 vs g (hr.deeper _)
  have I : Inv (ncx CX P w K mg base N (nf x qual params body scope cc cda) f A outer s2 H2 E) [] (startF N vs [some (.ref D)]) H2 { s2 with heap := h₁, toks := s2.toks + (ps.zip us).length } := inv_startN S hr.hd e2 hl r (cells_cl e2 F) hns kp
  show codeAny _ _ (.func body (envF (nf x qual params body scope cc cda) f s2.heap.objs.size)) _ _
  refine ks_codeAny_funcAt (ks_wpAt_mono (ht.run [] _ (startF N vs [some (.ref D)]) H2 _ I hq) (fun fl s' hs => ?_) fun e s' hs => ?_)
  · have fin : ∀ {σ' : L2.St} {H' : Hp} {v : V} {u : Value}, Inv (ncx CX P w K mg base N (nf x qual params body scope cc cda) f A outer s2 H2 E) [] σ' H' s' → L2.RelV v u → Q v H' → CE outer P w H s Q u s' :=
      fun {σ' H' v u} J rv q => ⟨v, H', J.os.trans ho, J.bare, un.trans J.base, J.hok, rv, q⟩
    cases fl with
    | ret u =>
      obtain ⟨v, σ', H', J, rv, q⟩ := hs
      exact fin J rv q
    | next =>
      obtain ⟨σ', H', J, q⟩ := hs
      exact fin (v := V.non) (u := Value.none) J rfl q
    | brk =>
      obtain ⟨_, _, _, q⟩ := hs
      exact False.elim q
    | cont =>
      obtain ⟨_, _, _, q⟩ := hs
      exact False.elim q
  · exact wpAny_mono hs (fun _ s'' z => hx e s'' z) fun e' s'' z => hx e' s'' z
/-- a promise of positional values and keywords' values -/
def FnKR (P : Program) (w : World) (K : PySem.W.Frag) (mg : Str → Option Value) (base : Heap) (CX : CXT) (k : Nat) (f : Addr) (ks : List Str) (sp : List V → Sp) : Prop :=
  ∀ (A : Around) (outer : List Env) (s : Shared) (H : Hp) (us ws : List Value) (vs zs : List V) (Q : VK) (E : XK), Room k A → Env0 P w K mg base A outer s H → Vals vs us → Vals zs ws → zs.length = ks.length → sp zs vs H Q E →
    codeAny (model P w) A (.call (.ref f) ⟨us, ks.zip ws⟩) (CR CX outer P w H s Q E) s
/-- def f(a, .., *v, k = d), its keywords written at the call -/
theorem fn_starKS {g : {α : Type} → List α → α → List α → List α} {sp : Sp} (F : FunS K x qual params body scope dvs kws file D f cc cda fd) (S : NScope N ps ["__class__"] scope) (hCX : CXUp CX)
    (hg : ∀ {vs zs : List V} {us ws : List Value} {v : V} {u : Value}, Vals vs us → L2.RelV v u → Vals zs ws → Vals (g vs v zs) (g us u ws))
    (hb : ∀ (us rest ws : List Value), us.length = np → ws.length = ks.length → bindArgs fd ⟨us ++ rest, ks.zip ws⟩ = (newTuple rest >>= fun t => pure (ps.zip (g us t ws))))
    (len : ∀ vs H Q E, sp vs H Q E → vs.length = ps.length)
    (hbody : ∀ (A : Around) (outer : List Env) (s : Shared) (H : Hp) (vs : List V) (Q : VK) (E : XK), Room k (A.deeper (envF (nf x qual params body scope cc cda) f s.heap.objs.size)) → sp vs H Q E →
      ∃ t, PSAs (ncx CX P w K mg base N (nf x qual params body scope cc cda) f A outer s H E) body body t ∧ t { nx := fun _ H' => Q .non H', rt := Q } (startF N vs [some (.ref D)]) H) :
    FnKR P w K mg base CX (k + 1) f ks (fun zs vs H Q E => ∃ ws rest, vs = ws ++ rest ∧ ws.length = np ∧ rest.length ≤ sizeLine ∧ ∀ p, H p = Option.none → sp (g ws (V.ref p) zs) (upd H p (.tup rest)) Q E) := by
  intro A outer s H us wv vs zs Q E hr e0 r rz hzl hsp
  obtain ⟨ws, rest, ev, hl, hz, hq⟩ := hsp
  subst ev
  obtain ⟨u1, u2, eu, r1, r2⟩ := vals_split r
  subst eu
  have hn : H s.heap.objs.size = Option.none := e0.hok.fresh (Nat.le_refl _)
  have hl1 : u1.length = np := by rw [← r1.length]; exact hl
  have hl2 : u2.length ≤ sizeLine := by rw [← r2.length]; exact hz
  have hl3 : wv.length = ks.length := by rw [← rz.length]; exact hzl
  refine run_bndS F S hr e0 (G := fun xs H2 => ∃ p, H p = Option.none ∧ xs = g ws (V.ref p) zs ∧ H2 = upd H p (.tup rest)) (fun A' Ex Q' h => ?_) fun s2 H2 xs ⟨p, hp, ex, eH⟩ hr' => ?_
  · rw [hb u1 u2 wv hl1 hl3]
    refine wpAny_bind (wpAny_newTuple (wpAny_pure ?_) hl2)
    have new : ObjOk P w (upd H s.heap.objs.size (.tup rest)) (s.heap.push ({ cls := .type "tuple", data := .seq u2.toArray } : Obj)) s.heap.objs.size (.tup rest) := ⟨hz, u2, r2, ⟨_, Heap.get?_push_size _ rfl, rfl, _, rfl⟩⟩
    have un := un_laid (fs := frs outer) (s := s) (o := ({ cls := .type "tuple", data := .seq u2.toArray } : Obj)) (u := .tup rest) hn
    exact h _ _ (g ws (V.ref s.heap.objs.size) zs) (g u1 (Value.ref s.heap.objs.size) wv) (env0_laid e0 new) un rfl (fun e s' => hCX outer s H _ _ E e s' un (fun b o q => Heap.get?_push_of_some _ q) rfl) (hg r1 rfl rz)
      (len _ _ _ _ (hq _ hn)) ⟨_, hn, rfl, rfl⟩
  · subst ex eH
    exact hbody A outer s2 _ _ Q E hr' (hq p hp)
end
section
variable {X : Cx} {CX : CXT} {k n : Nat} {f C : Addr} {ks : List Str} {sp : List V → Sp} {E : L2.St → XK} {x : Str} {p pos : Pos} {e : Expr} {es : List Expr} {kws : List Keyword} {t tk : TA}
def tMakeKR (C : Addr) (m : Nat) (sp : List V → Sp) (E : L2.St → XK) (t tk : TA) : TE := fun σ H Q => t σ H fun vs H1 => tk σ H1 fun zs H2 => zs.length = m ∧
  ∀ x dx, H2 x = none → H2 dx = none → dx ≠ x → sp zs (.ref x :: vs) (upd (upd H2 dx (.own x)) x (.ins C dx [])) (fun v H3 => v = .non ∧ Q (.ref x) H3) (E σ)
theorem run_makeKR {pins : List (Addr × Obj)} {σ : L2.St} {H : Hp} {s : Shared} {Q : VK} {us ws : List Value} {vs zs : List V} (M : Mk X.K C f) (F : FnKR X.prog X.w X.K X.mg X.base CX k f ks sp) (hr : Room (k + 1) X.A)
    (hx : PassesAt CX X σ (E σ)) (I : Inv X pins σ H s) (r : Vals vs us) (rz : Vals zs ws) (l2 : zs.length = ks.length)
    (h : ∀ x dx, H x = none → H dx = none → dx ≠ x → sp zs (.ref x :: vs) (upd (upd H dx (.own x)) x (.ins C dx [])) (fun v H2 => v = .non ∧ Q (.ref x) H2) (E σ)) :
    wpAny (model X.prog X.w) X.A (call (.ref C) us (ks.zip ws)) (EP X pins σ Q) X.xe s := by
  have hq := h (s.heap.objs.size + 1) s.heap.objs.size (I.hok.fresh (Nat.le_succ _)) (I.hok.fresh (Nat.le_refl _)) (Nat.ne_of_lt (Nat.lt_succ_self _))
  have I2 := Inv.made (C := C) I
  have r1 : Vals (V.ref (s.heap.objs.size + 1) :: vs) (Value.ref (s.heap.objs.size + 1) :: us) := .cons rfl r
  refine wpAny_call (make_map (f := f) I.kIn M.makes M.init (beq_iff_eq.mp M.fn) (codeAny_mono (F _ X.stack _ _ (Value.ref (s.heap.objs.size + 1) :: us) ws _ _ _ (E σ) (hr.make C us (ks.zip ws))
    (I2.env0.make C us (ks.zip ws)) r1 rz l2 hq) fun r s' hq' => ?_))
  cases r with
  | error e => exact hx pins _ _ e s' I2 hq'
  | ok fl =>
    cases fl with
    | ret u =>
      obtain ⟨v, H', I3, rv, ev, q3⟩ := I2.after hq'
      subst ev
      exact ⟨rv, ⟨V.ref (s.heap.objs.size + 1), H', I3, rfl, q3⟩⟩
    | next => exact False.elim hq'
    | brk => exact False.elim hq'
    | cont => exact False.elim hq'
theorem pe_makeKR (M : Mk X.K C f) (F : FnKR X.prog X.w X.K X.mg X.base CX k f ks sp) (hr : Room (k + 1) X.A) (hg : Gl X x) (hm : X.mg x = some (.ref C)) (hx : ∀ σ, PassesAt CX X σ (E σ))
    (ha : PA X (e :: es) t) (hkw : PK X kws tk) (hall : (backToKw pos (keywordEach kws X.env)).all (·.1.isSome) = true := by rfl) (hks : (backToKw pos (keywordEach kws X.env)).filterMap (·.1) = ks := by rfl)
    (hdb : (x == ("__debug__" : Str)) = false := by decide) (he : starEach (e :: es) X.env = (false, eval e X.env) :: starEach es X.env := by rfl)
    (hpl : ((backTo pos (starEach (e :: es) X.env)).any (·.1) || (backToKw pos (keywordEach kws X.env)).any (·.1.isNone)) = false := by rfl) :
    PE X (.Call (.Name x p) (e :: es) kws pos) (tMakeKR C ks.length sp E t tk) := by
  refine ⟨fun pins s σ H Q I h => ?_⟩
  refine wpAny_Call_Name_kw (ld_glob I hg hm ?_ hdb)
  refine PySem.W.callWith_KW (h₀ := X.base) I.ok.mod.kin M.kp hall (thn (ha.run pos pins s σ H _ I h) fun us s1 ⟨vs, H1, I1, r, q⟩ => ?_) hpl he
  refine thn (hkw.run pos pins s1 σ H1 _ I1 q) fun ws s2 ⟨zs, H2, I2, rz, l2, q2⟩ => ⟨I2.kIn, ?_⟩
  rw [hks]
  exact run_makeKR M F hr (hx σ) I2 r rz l2 q2
end
section
variable {K : PySem.W.Frag} {hid : Addr → Prop} {M M1 : Mem} {ad ad1 : List Addr} {H H1 : Hp} {σ : L2.St} {ρ : Rho} {W : WX}
/-- C(a, .., *rest, k = v): np positional parameters (self among them), pm puts them, the tuple and the keywords in the parameters' order -/
def mMakeKR (c : Str) (n np m : Nat) (g : GF) (pm : List D → D → List D → List D) (ma mk : SA) : SE := fun ρ M => (ma ρ M).bind fun ds M1 => (mk ρ M1).bind fun es M2 =>
  if es.length = m ∧ np ≤ ds.length + 1 ∧ ds.length ≤ sizeLine ∧ (pm (.obj M2.length :: ds.take (np - 1)) (.tup (ds.drop (np - 1))) es).length = n ∧ 0 < np then mkEnd M2.length (g (pm (.obj M2.length :: ds.take (np - 1)) (.tup (ds.drop (np - 1))) es) (M2 ++ [.ins c [] []])) else .bad
theorem make_lay {c : Str} {x dx : Addr} (k : Ok K hid M ad H) (hx : H x = none) (hdx : H dx = none) (ne : dx ≠ x) :
    Fr hid M ad H (M ++ [.ins c [] []]) (ad ++ [x]) (upd (upd H dx (.own x)) x (.ins (He.ga K c) dx [])) ∧ Ok K hid (M ++ [.ins c [] []]) (ad ++ [x]) (upd (upd H dx (.own x)) x (.ins (He.ga K c) dx [])) ∧
    Rp K (wd hid (M ++ [.ins c [] []]) (ad ++ [x]) (upd (upd H dx (.own x)) x (.ins (He.ga K c) dx []))) (.obj M.length) (.ref x) := by
  have f1 : Fr hid M ad H M ad (upd H dx (.own x)) := Fr.new hdx (k.fresh hdx)
  have k1 : Ok K hid M ad (upd H dx (.own x)) := k.new hdx
  have hx1 : upd H dx (.own x) x = none := by rw [upd_ne (fun z => ne z.symm)]; exact hx
  have k2 : Ok K (hidA hid x) M ad (upd (upd H dx (.own x)) x (.ins (He.ga K c) dx [])) := k1.hide hx1
  have nh : ¬ hid x := fun z => k1.hh x z hx1
  obtain ⟨k3, l3⟩ := join_mem (o := .ins c [] []) (by intro z; cases z) nh k2 ⟨dx, [], upd_same, rfl, RpL.nil⟩
  have f3 : Fr hid M ad (upd H dx (.own x)) (M ++ [.ins c [] []]) (ad ++ [x]) (upd (upd H dx (.own x)) x (.ins (He.ga K c) dx [])) := by
    refine ⟨(Le.hide hx1).trans l3, fun b z => upd_ne (fun q : b = x => nh (q ▸ z)), fun b z => ?_⟩
    by_cases q : b = x
    · rw [q, upd_same]
      simp
    · rw [upd_ne q]
      exact z
  refine ⟨f1.trans f3, k3, ?_⟩
  simp only [Rp]
  refine ⟨x, rfl, ?_⟩
  rw [← k.len]
  exact List.getElem?_concat_length ..
theorem make_fin {x : Addr} {Q : VK} {E : XK} {M' : Mem} {ad' : List Addr} {H' : Hp} {r : Res D} (f : Fr hid M ad H M' ad' H') (ex : ad'[M.length]? = some x) (h : (pV K hid Q E).P M ad H (mkEnd M.length r)) :
    (pV K hid (fun v H2 => v = .non ∧ Q (.ref x) H2) E).P M' ad' H' r := by
  cases r with
  | bad => exact h.elim
  | exc c' ns es M2 => exact PostX.fr f h
  | ok d M2 =>
    intro v ad2 H2 f5 k5 rv
    have h2 : (pV K hid Q E).P M ad H (mkEnd1 M.length d M2) := h
    cases d with
    | non =>
      have ev : v = .non := by simpa only [Rp] using rv
      refine ⟨ev, ?_⟩
      have h3 : (pV K hid Q E).P M ad H (mkEnd2 M.length M2 (M2[M.length]?)) := h2
      cases e2 : M2[M.length]? with
      | none =>
        rw [e2] at h3
        exact h3.elim
      | some o =>
        rw [e2] at h3
        cases o with
        | ins c2 ns2 ds2 =>
          have ea : ad2[M.length]? = some x := by
            obtain ⟨z, hz⟩ := f5.le.pre
            have hz' : ad2 = ad' ++ z := hz
            have hl := (List.getElem?_eq_some_iff.mp ex).1
            rw [hz', List.getElem?_append_left hl]
            exact ex
          obtain ⟨f6, k6, r6⟩ := freeze_mem k5 e2 ea
          exact h3 (.ref x) ad2 H2 ((f.trans f5).trans f6) k6 r6
        | _ => exact h3.elim
    | _ => exact h2.elim
def spKR (K : PySem.W.Frag) (n np : Nat) (g : GF) (gV : List V → V → List V → List V) : List V → Sp := fun zs vs H Q E => ∃ ws rest, vs = ws ++ rest ∧ ws.length = np ∧ rest.length ≤ sizeLine ∧ ∀ p, H p = Option.none → spD K n g (gV ws (V.ref p) zs) (upd H p (.tup rest)) Q E
theorem snd_makeKR {c : Str} {n np m : Nat} {g : GF} {pm : List D → D → List D → List D} {gV : List V → V → List V → List V} {ta tk : TA} {ma mk : SA}
    (hp : ∀ (W : Wd) (ds es : List D) (d : D) (vs zs : List V) (v : V), RpL K W ds vs → Rp K W d v → RpL K W es zs → RpL K W (pm ds d es) (gV vs v zs)) (ha : SndA K W ta ma) (hk : SndA K W tk mk) :
    Snd K W (tMakeKR (He.ga K c) m (spKR K n np g gV) (WE W) ta tk) (mMakeKR c n np m g pm ma mk) := fun hid σ ρ M ad H Q k r h => by
  refine ha.step k r (pV K hid Q (wx W σ)) h fun ds M1 xs ad1 H1 f1 k1 rx r1 h1 => ?_
  refine hk.step k1 r1 (pV K hid Q (wx W σ)) h1 fun es M2 zs ad2 H2 f2 k2 rz r2 h2 => ?_
  have rx2 := RpL.le f2.le ds rx
  by_cases cl : es.length = m ∧ np ≤ ds.length + 1 ∧ ds.length ≤ sizeLine ∧ (pm (.obj M2.length :: ds.take (np - 1)) (.tup (ds.drop (np - 1))) es).length = n ∧ 0 < np
  · rw [if_pos cl] at h2
    obtain ⟨c1, c2, c3, c4, c5⟩ := cl
    refine ⟨by rw [rz.len]; exact c1, fun x dx hx hdx ne => ?_⟩
    refine ⟨.ref x :: xs.take (np - 1), xs.drop (np - 1), by rw [List.cons_append, List.take_append_drop], ?_, ?_, fun p hp0 => ?_⟩
    · rw [List.length_cons, List.length_take, rx2.len]
      omega
    · rw [List.length_drop, rx2.len]
      omega
    · obtain ⟨f3, k3, r3⟩ := make_lay (c := c) k2 hx hdx ne
      obtain ⟨f4, k4, r4⟩ := new_tup k3 hp0 ((RpL.le f3.le ds rx2).drop (np - 1))
      have f5 := f3.trans f4
      refine ⟨hid, _, M2 ++ [.ins c [] []], ad2 ++ [x], c4, k4, hp _ _ _ _ _ _ _ (RpL.cons (Rp.le f4.le _ r3) ((RpL.le f5.le ds rx2).take (np - 1))) r4 (RpL.le f5.le es rz), ?_⟩
      exact make_fin f5 (by rw [← k2.len]; exact List.getElem?_concat_length ..) h2
  · rw [if_neg cl] at h2
    exact h2.elim
end
end SU

end
section
set_option maxHeartbeats 4000000
namespace SU
open PySem PySem.Spec PyProof.Rows L2 NdefX DL StX He
section
variable {K : PySem.W.Frag} {H : Hp}
theorem startF_eq (N : List Str) (vs : List V) (v : V) : startF N vs [some v] = L2.start N (vs ++ [v]) := by
  unfold startF L2.start
  rw [List.map_append, List.append_assoc, List.length_append, List.length_singleton, List.length_singleton, Nat.sub_sub]
  rfl
/-- a def that holds the cell of the class c: its slot stands behind the parameters -/
def mBodyS (N : Nat) (c : Str) (m : SS) : GF := fun ds M => mBody N m (ds ++ [.cls c]) M
theorem body_okS {E : XK} {Q : VK} {N : List Str} {n : Nat} {c : Str} {ts : TS} {m : SS} (s : SndS K (fun c d _ H' => E c d H') ts m) {vs : List V} (h : spD K n (mBodyS N.length c m) vs H Q E) :
    ts { nx := fun _ H' => Q .non H', rt := Q } (startF N vs [some (.ref (ga K c))]) H := by
  rw [startF_eq]
  obtain ⟨hid, ds, M, ad, e, k, r, q⟩ := h
  have rc : Rp K (wd hid M ad H) (.cls c) (.ref (ga K c)) := by simp [Rp]
  exact body_ok s (n := n + 1) ⟨hid, ds ++ [D.cls c], M, ad, by rw [List.length_append, e]; rfl, k, r.append (RpL.cons rc RpL.nil), (show (pV K hid Q E).P M ad H (mBody N.length m (ds ++ [D.cls c]) M) from q)⟩
end
/-- what the head says of the top, with looks -/
structure TopS (L : Looks3) (bl : List (PySem.W.Frag → Bool)) (K : PySem.W.Frag) (mg : Str → Option Value) (P : Program) (file : Str) : Prop where
  ex : ∃ h : Heap, K.In h ∧ h.Ns mainGlobals mg
  says : SaysS L K
  isB : L.bs = fun K => bl.all fun b => b K
  file : ((P.main.file : Str) == file) = true
  top : (P.main.scope.names.lookup ("super" : Str)).isSome = false
section
variable {L : Looks3} {bl : List (PySem.W.Frag → Bool)} {K : PySem.W.Frag} {mg : Str → Option Value} {P : Program} {file : Str}
theorem TopS.t (T : TopS L bl K mg P file) : Top L.fa L.fn K mg := ⟨T.ex, T.says.d⟩
theorem TopS.b (T : TopS L bl K mg P file) (i : Nat) {b : PySem.W.Frag → Bool} (h : bl[i]? = some b := by rfl) : b K = true := by
  have h1 := T.says.more
  rw [T.isB] at h1
  exact List.all_eq_true.mp h1 b (List.mem_of_getElem? h)
end
end SU

end
section
set_option maxHeartbeats 4000000
namespace DL
open PySem PySem.Spec PyProof.Rows L2
section
variable {K : PySem.W.Frag} {hid : Addr → Prop} {M M1 : Mem} {ad ad1 : List Addr} {H H1 : Hp} {σ : L2.St} {ρ : Rho} {W : WX}
theorem rpl_strs {W' : Wd} : ∀ ys : List Str, RpL K W' (ys.map D.str) (ys.map V.str)
  | [] => RpL.nil
  | y :: r => RpL.cons (rp_str y) (rpl_strs r)
/-- a.split(b) -/
def fSplit (a : Str) (d : D) (M : Mem) : Res D := match d with
  | .str b => if (b.length == 0) = false ∧ a.length + 2 ≤ sizeLine then .ok (.lst ((Txt.split a b).map D.str)) M else .bad
  | _ => .bad
theorem mt1_split : Mt1S K (fun x xs H Q => ∃ a b, x = .str a ∧ xs = [.str b] ∧ (b.length == 0) = false ∧ a.length + 2 ≤ sizeLine ∧ rNewStrs (Txt.split a b) H Q) fSplit := fun hid M ad H a d v Q E k r q => by
  cases d with
  | str b =>
    have e : v = .str b := by simpa only [Rp] using r
    subst e
    have q2 : (pV K hid Q E).P M ad H (if (b.length == 0) = false ∧ a.length + 2 ≤ sizeLine then .ok (.lst ((Txt.split a b).map D.str)) M else .bad) := q
    by_cases c : (b.length == 0) = false ∧ a.length + 2 ≤ sizeLine
    · rw [if_pos c] at q2
      refine ⟨a, b, rfl, rfl, c.1, c.2, fun p hp => ?_⟩
      obtain ⟨f2, k2, r2⟩ := new_lst k hp (rpl_strs (Txt.split a b))
      exact q2 _ ad _ f2 k2 r2
    · rw [if_neg c] at q2
      exact q2.elim
  | _ => exact q.elim
/-- x in y, y a list: by deep equality -/
def fInD (neg : Bool) : D → D → Mem → Res D := fun x y M => match py x, y with
  | some p, .lst es => (match pyL es with
    | some ps => if SeqAt.shaped p = true ∧ SeqAt.shaped (.list ps) = true then .ok (.bl (if neg then !ps.any fun z => PyData.eqv z p else ps.any fun z => PyData.eqv z p)) M else .bad
    | none => .bad)
  | _, _ => .bad
def rInDn (K : PySem.W.Frag) (neg : Bool) : R2 := fun x y H Q => ∃ d ds, Dp K H x d ∧ Dp K H y (.list ds) ∧ SeqAt.shaped d = true ∧ SeqAt.shaped (.list ds) = true ∧ Q (.bl (if neg then !ds.any fun z => PyData.eqv z d else ds.any fun z => PyData.eqv z d)) H
theorem ops_inDn {neg : Bool} : OpS K (rInDn K neg) (fInD neg) := fun hid M ad H dx dy x y Q E k rx ry q => by
  unfold fInD at q
  cases e1 : py dx with
  | none =>
    rw [e1] at q
    exact q.elim
  | some p =>
    rw [e1] at q
    cases dy with
    | lst es =>
      have q1 : (pV K hid Q E).P M ad H (match pyL es with
        | some ps => if SeqAt.shaped p = true ∧ SeqAt.shaped (.list ps) = true then .ok (.bl (if neg then !ps.any fun z => PyData.eqv z p else ps.any fun z => PyData.eqv z p)) M else .bad
        | none => .bad) := q
      cases e2 : pyL es with
      | none =>
        rw [e2] at q1
        exact q1.elim
      | some ps =>
        rw [e2] at q1
        have q2 : (pV K hid Q E).P M ad H (if SeqAt.shaped p = true ∧ SeqAt.shaped (.list ps) = true then .ok (.bl (if neg then !ps.any fun z => PyData.eqv z p else ps.any fun z => PyData.eqv z p)) M else .bad) := q1
        by_cases c : SeqAt.shaped p = true ∧ SeqAt.shaped (.list ps) = true
        · rw [if_pos c] at q2
          have e3 : py (.lst es) = some (.list ps) := by
            show (pyL es).map PyData.list = _
            rw [e2]
            rfl
          exact ⟨p, ps, py_dp dx e1 rx, py_dp (.lst es) e3 ry, c.1, c.2, q2 _ ad H Fr.refl k (rp_bl _)⟩
        · rw [if_neg c] at q2
          exact q2.elim
    | _ => exact q.elim
theorem op_inDn {X : Cx} (hu : X.A.units + 65 < cLine) : OpR X (compareOp .In) (rInDn X.K false) := op_inD hu
theorem op_notInDn {X : Cx} (hu : X.A.units + 65 < cLine) : OpR X (compareOp .NotIn) (rInDn X.K true) := op_notInD hu
/-- o.append(e), o a list of the memory -/
def fAppend (x d : D) (M : Mem) : Res D := match x with
  | .obj j => (match M[j]? with
    | some (.lst ds) => if ds.length < sizeLine then .ok .non (M.set j (.lst (ds ++ [d]))) else .bad
    | _ => .bad)
  | _ => .bad
def lstAt (x : D) (M : Mem) : Option (List D) := match x with
  | .obj j => (match M[j]? with
    | some (.lst ds) => some ds
    | _ => none)
  | _ => none
def mAppend (mo me : SE) : SE := fun ρ M => (mo ρ M).bind fun x M1 => match lstAt x M1 with
  | some _ => (me ρ M1).bind fun d M2 => fAppend x d M2
  | none => .bad
theorem lstAt_some {x : D} {ds : List D} (h : lstAt x M = some ds) : ∃ j, x = .obj j ∧ M[j]? = some (.lst ds) := by
  cases x with
  | obj j =>
    have h' : (match M[j]? with
      | some (MO.lst ds) => some ds
      | _ => none) = some ds := h
    cases e : M[j]? with
    | none =>
      rw [e] at h'
      cases h'
    | some o =>
      rw [e] at h'
      cases o with
      | lst es =>
        cases h'
        exact ⟨j, rfl, e⟩
      | _ => cases h'
  | _ => cases h
theorem snd_append {to te : TE} {mo me : SE} (ho : Snd K W to mo) (he : Snd K W te me) : Snd K W (tBM K "list" rAppend to (tCons te tNil)) (mAppend mo me) := fun hid σ ρ M ad H Q kk rr h => by
  refine ho.step kk rr (pV K hid Q (wx W σ)) h fun x M1 vx ad1 H1 f1 k1 rx r1 h1 => ?_
  cases e0 : lstAt x M1 with
  | none =>
    rw [e0] at h1
    exact h1.elim
  | some ds0 =>
    rw [e0] at h1
    have q : (pV K hid Q (wx W σ)).P M1 ad1 H1 ((me ρ M1).bind fun d M2 => fAppend x d M2) := h1
    obtain ⟨j, rfl, ej⟩ := lstAt_some e0
    have rx0 := rx
    simp only [Rp] at rx
    obtain ⟨a, ex, ea⟩ := rx
    obtain ⟨vs0, g0, _⟩ := k1.ob j _ a ej ea
    subst ex
    refine ⟨.inl ⟨rfl, vs0, SqL.of g0⟩, ?_⟩
    refine he.step k1 r1 (pV K hid Q (wx W σ)) q fun d M2 v ad2 H2 f2 k2 rv r2 q2 => ?_
    have ea2 : ad2[j]? = some a := by
      have := Rp.le f2.le _ rx0
      simp only [Rp] at this
      obtain ⟨a', e1, e2⟩ := this
      cases e1
      exact e2
    have q3 : (pV K hid Q (wx W σ)).P M2 ad2 H2 (match M2[j]? with
      | some (.lst ds) => if ds.length < sizeLine then Res.ok .non (M2.set j (.lst (ds ++ [d]))) else .bad
      | _ => .bad) := q2
    cases e : M2[j]? with
    | none =>
      rw [e] at q3
      exact q3.elim
    | some o =>
      rw [e] at q3
      cases o with
      | lst ds =>
        have q4 : (pV K hid Q (wx W σ)).P M2 ad2 H2 (if ds.length < sizeLine then Res.ok .non (M2.set j (.lst (ds ++ [d]))) else .bad) := q3
        by_cases c : ds.length < sizeLine
        · rw [if_pos c] at q4
          obtain ⟨vs, g1, g2⟩ := k2.ob j _ a e ea2
          obtain ⟨f4, k4⟩ := mem_set (u := .lst (vs ++ [v])) (o' := .lst (ds ++ [d])) k2 e (by intro z; cases z) ea2 (by intro z; cases z)
          have k5 := k4 ⟨vs ++ [v], upd_same, (RpL.le f4.le ds g2).append (RpL.cons (Rp.le f4.le d rv) RpL.nil)⟩
          exact ⟨a, vs, v, rfl, rfl, g1, by rw [g2.len]; exact c, q4 .non ad2 _ f4 k5 (by simp [Rp])⟩
        · rw [if_neg c] at q4
          exact q4.elim
      | _ => exact q3.elim
end
end DL

end
section
set_option maxHeartbeats 4000000
namespace DL
open PySem PySem.Spec PyProof.Rows L2
section
variable {K : PySem.W.Frag} {hid : Addr → Prop} {M M1 : Mem} {ad ad1 : List Addr} {H H1 : Hp} {σ : L2.St} {ρ : Rho} {W : WX}
/-- a list of the memory is set apart: hidden, its place dead -/
theorem apart_mem (k : Ok K hid M ad H) {j : Nat} {o : MO} {a : Addr} (ho : o ≠ .dead) (e : M[j]? = some o) (ea : ad[j]? = some a) :
    Le (wd hid M ad H) (wd (hidA hid a) (M.set j .dead) ad H) ∧ Ok K (hidA hid a) (M.set j .dead) ad H := by
  have hl := (List.getElem?_eq_some_iff.mp e).1
  have lv : ∀ i, lvI (M.set j .dead) i → lvI M i ∧ i ≠ j := fun i ⟨u, z1, z2⟩ => by
    by_cases q : j = i
    · subst q
      rw [List.getElem?_set_self hl] at z1
      cases z1
      exact absurd rfl z2
    · rw [List.getElem?_set_ne q] at z1
      exact ⟨⟨u, z1, z2⟩, fun z => q z.symm⟩
  have lj : lvI M j := ⟨o, e, ho⟩
  have bd : ∀ b, badOf (hidA hid a) (M.set j .dead) ad b → badOf hid M ad b := fun b z => by
    rcases z with (z | z) | ⟨i, z1, z2⟩
    · exact .inl z
    · subst z
      exact .inr ⟨j, lj, ea⟩
    · exact .inr ⟨i, (lv i z1).1, z2⟩
  have le : Le (wd hid M ad H) (wd (hidA hid a) (M.set j .dead) ad H) := ⟨⟨[], by simp⟩, fun b u h n => ⟨h, fun z => n (bd b z)⟩⟩
  refine ⟨le, ⟨by rw [List.length_set]; exact k.len, fun i l b z1 z2 => k.inj i l b (lv i z1).1 (lv l z2).1, fun i b z1 z2 => ?_, fun i u b z1 z2 => ?_, fun b z => ?_⟩⟩
  · rintro (z | z)
    · exact k.nh i b (lv i z1).1 z2 z
    · subst z
      exact (lv i z1).2 (k.inj i j b (lv i z1).1 lj z2 ea)
  · by_cases q : j = i
    · subst q
      rw [List.getElem?_set_self hl] at z1
      cases z1
      trivial
    · rw [List.getElem?_set_ne q] at z1
      exact MOk.le le rfl (k.ob i u b z1 z2)
  · rcases z with z | z
    · exact k.hh b z
    · subst z
      obtain ⟨u, hu⟩ := k.some lj ea
      rw [hu]
      simp
/-- it comes back -/
theorem back_mem {a : Addr} {o : MO} {j : Nat} (ho : o ≠ .dead) (nh : ¬ hid a) (k : Ok K (hidA hid a) M ad H) (e : M[j]? = some .dead) (ea : ad[j]? = some a) (mo : MOk K (wd (hidA hid a) M ad H) a o) :
    Le (wd (hidA hid a) M ad H) (wd hid (M.set j o) ad H) ∧ Ok K hid (M.set j o) ad H := by
  have hl := (List.getElem?_eq_some_iff.mp e).1
  have lv : ∀ i, lvI (M.set j o) i → lvI M i ∨ i = j := fun i ⟨u, z1, z2⟩ => by
    by_cases q : j = i
    · exact .inr q.symm
    · rw [List.getElem?_set_ne q] at z1
      exact .inl ⟨u, z1, z2⟩
  have bd : ∀ b, badOf hid (M.set j o) ad b → badOf (hidA hid a) M ad b := fun b z => by
    rcases z with z | ⟨i, z1, z2⟩
    · exact .inl (.inl z)
    · rcases lv i z1 with z3 | z3
      · exact .inr ⟨i, z3, z2⟩
      · subst z3
        rw [ea] at z2
        exact .inl (.inr (Option.some.inj z2).symm)
  have le : Le (wd (hidA hid a) M ad H) (wd hid (M.set j o) ad H) := ⟨⟨[], by simp⟩, fun b u h n => ⟨h, fun z => n (bd b z)⟩⟩
  have noa : ∀ i, lvI M i → ad[i]? ≠ some a := fun i z z2 => k.nh i a z z2 (.inr rfl)
  refine ⟨le, ⟨by rw [List.length_set]; exact k.len, fun i l b z1 z2 g1 g2 => ?_, fun i b z1 z2 z => ?_, fun i u b z1 z2 => ?_, fun b z => k.hh b (.inl z)⟩⟩
  · rcases lv i z1 with z3 | z3
    · rcases lv l z2 with z4 | z4
      · exact k.inj i l b z3 z4 g1 g2
      · subst z4
        rw [ea] at g2
        exact absurd (g1.trans (congrArg some (Option.some.inj g2).symm)) (noa i z3)
    · subst z3
      rcases lv l z2 with z4 | z4
      · rw [ea] at g1
        exact absurd (g2.trans (congrArg some (Option.some.inj g1).symm)) (noa l z4)
      · exact z4.symm
  · rcases lv i z1 with z3 | z3
    · exact k.nh i b z3 z2 (.inl z)
    · subst z3
      rw [ea] at z2
      have := Option.some.inj z2
      subst this
      exact nh z
  · by_cases q : j = i
    · subst q
      rw [List.getElem?_set_self hl] at z1
      cases z1
      rw [ea] at z2
      have := Option.some.inj z2
      subst this
      exact MOk.le le rfl mo
    · rw [List.getElem?_set_ne q] at z1
      exact MOk.le le rfl (k.ob i u b z1 z2)
theorem back_bad {a : Addr} {o : MO} {j : Nat} (ea : ad[j]? = some a) : ∀ b, badOf hid (M.set j o) ad b → badOf (hidA hid a) M ad b := fun b z => by
  rcases z with z | ⟨i, ⟨u, z1, z3⟩, z2⟩
  · exact .inl (.inl z)
  · by_cases q : j = i
    · subst q
      rw [ea] at z2
      exact .inl (.inr (Option.some.inj z2).symm)
    · rw [List.getElem?_set_ne q] at z1
      exact .inr ⟨i, ⟨u, z1, z3⟩, z2⟩
theorem Le.hideNew {W1 : Wd} {a0 : Addr} (l : Le W1 (wd hid M ad H)) (h : W1.H a0 = none) : Le W1 (wd (hidA hid a0) M ad H) := ⟨l.pre, fun b o e n => by
  obtain ⟨g1, g2⟩ := l.keep b o e n
  refine ⟨g1, fun z => ?_⟩
  rcases z with (z | z) | z
  · exact g2 (.inl z)
  · subst z
    rw [h] at e
    cases e
  · exact g2 (.inr z)⟩
theorem hidA_swap {a b : Addr} : hidA (hidA hid a) b = hidA (hidA hid b) a := by
  funext c
  apply propext
  exact ⟨fun z => z.elim (fun z => z.elim (fun z => .inl (.inl z)) .inr) fun z => .inl (.inr z), fun z => z.elim (fun z => z.elim (fun z => .inl (.inl z)) .inr) fun z => .inl (.inr z)⟩
theorem RpS.leH {hid' : Addr → Prop} {M' : Mem} (l : Le (wd hid M ad H) (wd hid' M' ad H)) (h : ∀ a, hid a → hid' a) (r : RpS K hid M ad H ρ σ) : RpS K hid' M' ad H ρ σ :=
  ⟨r.len, fun i d e => let ⟨v, h1, h2⟩ := r.val i d e; ⟨v, h1, Rp.le l d h2⟩, fun i o e => let ⟨a, h1, h2, h3⟩ := r.own i o e; ⟨a, h1, h a h2, MOk.le l rfl h3⟩, r.inj, fun i es e => (r.env i es e).le l, fun i c ns ds e => let ⟨a, g1, g2⟩ := r.cau i c ns ds e; ⟨a, g1, g2.le l⟩⟩
def lcBack2 (j : Nat) (ds ys : List D) (M2 : Mem) : Option MO → Res D
  | some .dead => .ok (.lst ys) (M2.set j (.lst ds))
  | _ => .bad
def lcBack (j : Nat) (ds : List D) (r : Res (List D)) : Res D := match r with
  | .ok ys M2 => lcBack2 j ds ys M2 (M2[j]?)
  | _ => .bad
def lcM2 (ρ : Rho) (mg : SG) (tt : ST) (te : SE) (x : D) (M1 : Mem) : Option (List D) → Res D
  | some ds => (match x with
    | .obj j => if ds.length ≤ sizeLine then lcBack j ds (lcGo ρ mg tt te ds (M1.set j .dead)) else .bad
    | _ => .bad)
  | none => .bad
/-- [te for mg in a list of the memory if tt] -/
def mLcM (m0 : SE) (mg : SG) (tt : ST) (te : SE) (vs : List Nat) : SE := fun ρ M => (m0 ρ M).bind fun x M1 => lcM2 (wipeR ρ vs) mg tt te x M1 (lstAt x M1)
theorem snd_lcMF {t0 : TE} {g : TG} {tt : TT} {te : TE} {vs is : List Nat} {m0 : SE} {mg : SG} {mt : ST} {me : SE} (h0 : Snd K W t0 m0) (hg : SndG K g mg is) (hs : ∀ i ∈ is, i ∈ vs) (ht : SndT K W0 tt mt) (he : Snd K W0 te me) :
    SndF K W (tLc (iAny K t0) g tt te vs) (mLcM m0 mg mt me vs) := fun hid σ ρ M ad H Q k r h => by
  refine .inl ?_
  refine h0.step k r (pF K hid Q (wx W σ)) h fun x M1 vx ad1 H1 f1 k1 rx r1 h1 => ?_
  cases e0 : lstAt x M1 with
  | none =>
    rw [e0] at h1
    exact h1.elim
  | some ds =>
    rw [e0] at h1
    obtain ⟨j, rfl, ej⟩ := lstAt_some e0
    have h2 : (pF K hid Q (wx W σ)).P M1 ad1 H1 (if ds.length ≤ sizeLine then lcBack j ds (lcGo (wipeR ρ vs) mg mt me ds (M1.set j .dead)) else .bad) := h1
    by_cases c : ds.length ≤ sizeLine
    · rw [if_pos c] at h2
      simp only [Rp] at rx
      obtain ⟨a, ex, ea⟩ := rx
      obtain ⟨vs', g1, g2⟩ := k1.ob j _ a ej ea
      have nha : ¬ hid a := k1.nh j a ⟨_, ej, by intro z; cases z⟩ ea
      obtain ⟨le1, kA⟩ := apart_mem k1 (by intro z; cases z) ej ea
      have wk : WkG K (fun b => b = a) (hidA hid a) (M1.set j .dead) ad1 H1 (Itl K a) ds := by
        intro hid' M' ad' H' le hG k'
        have hH : H' a = some (.lst vs') := (hG a rfl).trans g1
        have l2' := RpL.le (le1.trans le) ds g2
        refine ⟨fun i d e1 => ?_, ⟨vs', SqL.of hH, Nat.le_of_eq g2.len⟩⟩
        obtain ⟨v, e2, rv⟩ := l2'.get e1
        refine ⟨⟨vs', v, SqL.of hH, e2⟩, fun x H2 y => ?_⟩
        obtain ⟨y1, y2⟩ := y
        subst y1
        have e3 := y2 vs' (SqL.of hH)
        rw [e2] at e3
        cases e3
        exact ⟨Fr.refl, k', rv⟩
      refine ⟨a, ex, ⟨vs', SqL.of g1⟩, ?_⟩
      refine lc_run (G := fun b => b = a) (W := W) hg hs ht he c kA wk (fun b z => .inr z) (r1.leH le1 fun b z => .inl z) ?_
      cases e3 : lcGo (wipeR ρ vs) mg mt me ds (M1.set j .dead) with
      | exc _ _ _ _ =>
        rw [e3] at h2
        exact h2.elim
      | bad =>
        rw [e3] at h2
        exact h2.elim
      | ok ys M2 =>
        rw [e3] at h2
        have h3 : (pF K hid Q (wx W σ)).P M1 ad1 H1 (lcBack2 j ds ys M2 (M2[j]?)) := h2
        have dead : M2[j]? = some .dead := by
          cases e4 : M2[j]? with
          | none =>
            rw [e4] at h3
            exact h3.elim
          | some o =>
            cases o with
            | dead => rfl
            | _ =>
              rw [e4] at h3
              exact h3.elim
        rw [dead] at h3
        intro a0 o ad' H' eo hn f k2 mo
        have ne : a ≠ a0 := fun z => by
          have g1' : H1 a0 = some (.lst vs') := by
            rw [← z]
            exact g1
          rw [hn] at g1'
          cases g1'
        have ea' : ad'[j]? = some a := by
          obtain ⟨z, hz⟩ := f.le.pre
          have hz' : ad' = ad1 ++ z := hz
          rw [hz', List.getElem?_append_left (List.getElem?_eq_some_iff.mp ea).1]
          exact ea
        rw [hidA_swap] at k2 mo
        have leA : Le (wd hid M1 ad1 H1) (wd (hidA (hidA hid a0) a) M2 ad' H') := by
          rw [← hidA_swap]
          exact Le.hideNew (le1.trans f.le) hn
        obtain ⟨leB, kB⟩ := back_mem (o := .lst ds) (by intro z; cases z) (fun z => z.elim nha ne) k2 dead ea' ⟨vs', (f.hidk a (.inr rfl)).trans g1, RpL.le leA ds g2⟩
        refine h3 a0 o ad' H' eo hn ⟨⟨f.le.pre, fun b u e n => ?_⟩, fun b z => f.hidk b (.inl z), f.dom⟩ kB (MOk.le leB rfl mo)
        obtain ⟨q1, q2⟩ := (le1.trans f.le).keep b u e n
        exact ⟨q1, fun z => q2 (back_bad ea' b z)⟩
    · rw [if_neg c] at h2
      exact h2.elim
end
end DL

end
section
set_option maxHeartbeats 4000000
namespace DL
open PySem PySem.Spec PyProof.Rows L2
section
variable {K : PySem.W.Frag} {hid : Addr → Prop} {M M1 : Mem} {ad ad1 : List Addr} {H H1 : Hp} {σ : L2.St} {ρ : Rho} {W : WX}
def rMulS : R2 := fun x y H Q => ∃ z n, x = .str z ∧ y = .int n ∧ MulOk z n ∧ Q (.str (Txt.mul z n)) H
theorem op_mulS {X : Cx} : OpR X (binaryOp .Mult) rMulS := by
  intro pins s σ H x y v u Q I rx ry h
  obtain ⟨z, n, rfl, rfl, hok, q⟩ := h
  obtain ⟨t, rfl⟩ := rx
  obtain ⟨t2, rfl⟩ := ry
  exact SB.mul hok fun t' k => ⟨.str (Txt.mul z n), H, I.tok k, ⟨t', rfl⟩, q⟩
/-- small texts, small counts -/
def fMulS : D → D → Mem → Res D := fun x y M => match x, y with
  | .str z, .int n => if z.length ≤ 1000 ∧ n ≤ 1000 ∧ -1000 ≤ n then .ok (.str (Txt.mul z n)) M else .bad
  | _, _ => .bad
theorem mulOk_small {z : Str} {n : Int} (h1 : z.length ≤ 1000) (h2 : n ≤ 1000) (h3 : -1000 ≤ n) : MulOk z n := by
  refine ⟨?_, fun h _ => ?_, fun h _ => ?_⟩
  · rw [Bool.or_eq_false_iff]
    exact ⟨decide_eq_false (by omega), decide_eq_false (by omega)⟩
  · have hn : 0 < n := by omega
    have h4 : (1000 : Int) ≤ (2 ^ 63 - 1) / n := by
      refine (Int.le_ediv_iff_mul_le hn).mpr ?_
      have : (1000 : Int) * n ≤ 1000 * 1000 := by omega
      omega
    omega
  · have h5 : z.length * n.toNat ≤ 1000 * 1000 := Nat.mul_le_mul h1 (by omega)
    have hz : sizeLine = 16777216 := rfl
    exact decide_eq_false (by rw [hz]; omega)
theorem ops_mulS : OpS K rMulS fMulS := fun hid M ad H dx dy x y Q E k rx ry q => by
  cases dx with
  | str z =>
    cases dy with
    | int n =>
      have e1 : x = .str z := by simpa only [Rp] using rx
      have e2 : y = .int n := by simpa only [Rp] using ry
      subst e1 e2
      have q2 : (pV K hid Q E).P M ad H (if z.length ≤ 1000 ∧ n ≤ 1000 ∧ -1000 ≤ n then .ok (.str (Txt.mul z n)) M else .bad) := q
      by_cases c : z.length ≤ 1000 ∧ n ≤ 1000 ∧ -1000 ≤ n
      · rw [if_pos c] at q2
        exact ⟨z, n, rfl, rfl, mulOk_small c.1 c.2.1 c.2.2, q2 _ ad H Fr.refl k (rp_str _)⟩
      · rw [if_neg c] at q2
        exact q2.elim
    | _ => exact q.elim
  | _ => cases dy <;> exact q.elim
end
end DL

end
section
set_option maxHeartbeats 4000000
namespace DL
open PySem PySem.Spec PyProof.Rows L2
section
variable {K : PySem.W.Frag} {hid : Addr → Prop} {M M1 : Mem} {ad ad1 : List Addr} {H H1 : Hp} {σ : L2.St} {ρ : Rho} {W : WX}
def keyOf : D → Option Key
  | .int i => some (.inl i)
  | .str z => some (.inr z)
  | _ => none
theorem keyOf_rp {W' : Wd} {d : D} {v : V} {k : Key} (h : keyOf d = some k) (r : Rp K W' d v) : v = kV k := by
  cases d with
  | int i =>
    cases h
    have e : v = .int i := by simpa only [Rp] using r
    exact e
  | str z =>
    cases h
    have e : v = .str z := by simpa only [Rp] using r
    exact e
  | _ => cases h
def dctOf (d : D) (M : Mem) : Option (List Key × List D) := match d with
  | .dct ks vs => some (ks, vs)
  | .obj j => (match M[j]? with
    | some (.dct ks vs) => some (ks, vs)
    | _ => none)
  | _ => none
theorem dctOf_rp (k : Ok K hid M ad H) {d : D} {v : V} {ks : List Key} {ds : List D} (h : dctOf d M = some (ks, ds)) (r : Rp K (wd hid M ad H) d v) :
    ∃ a es, v = .ref a ∧ H a = some (.dK es) ∧ es.map (·.1) = ks ∧ RpL K (wd hid M ad H) ds (es.map (·.2)) := by
  cases d with
  | dct ks' vs' =>
    cases h
    simp only [Rp] at r
    obtain ⟨a, es, e1, e2, _, e3, e4⟩ := r
    exact ⟨a, es, e1, e2, e3, e4⟩
  | obj j =>
    simp only [Rp] at r
    obtain ⟨a, e1, e2⟩ := r
    have h' : (match M[j]? with
      | some (MO.dct ks vs) => some (ks, vs)
      | _ => none) = some (ks, ds) := h
    cases e : M[j]? with
    | none =>
      rw [e] at h'
      cases h'
    | some o =>
      rw [e] at h'
      cases o with
      | dct ks2 ds2 =>
        cases h'
        obtain ⟨es, g1, g2, g3⟩ := k.ob j _ a e e2
        exact ⟨a, es, e1, g1, g2, g3⟩
      | _ => cases h'
  | _ => cases h
/-- the value at a key -/
def valD (k : Key) : List Key → List D → Option D
  | x :: ks, d :: ds => if x = k then some d else valD k ks ds
  | _, _ => none
theorem valD_rp {W' : Wd} {k : Key} : ∀ {es : List (Key × V)} {ds : List D}, RpL K W' ds (es.map (·.2)) → (valD k (es.map (·.1)) ds = none → valV es k = none) ∧ ∀ d, valD k (es.map (·.1)) ds = some d → ∃ v, valV es k = some v ∧ Rp K W' d v
  | [], ds, r => by
    have e : ds = [] := by
      cases ds with
      | nil => rfl
      | cons d ds =>
        obtain ⟨_, _, e, _⟩ := r.consI
        cases e
    subst e
    exact ⟨fun _ => rfl, fun d h => nomatch h⟩
  | (x, v) :: es, ds, r => by
    cases ds with
    | nil =>
      have := r.nilI
      cases this
    | cons d0 ds =>
      obtain ⟨v0, r0, e0, h1, h2⟩ := r.consI
      cases e0
      have ih := valD_rp (k := k) h2
      have ev : valD k (((x, v) :: es).map (·.1)) (d0 :: ds) = if x = k then some d0 else valD k (es.map (·.1)) ds := rfl
      rw [ev]
      by_cases c : x = k
      · rw [if_pos c]
        refine ⟨fun z => (nomatch z), fun d e => ?_⟩
        have e' : d0 = d := Option.some.inj e
        subst e'
        exact ⟨v, valV_pos (p := (x, v)) c, h1⟩
      · rw [if_neg c]
        have e2 : valV ((x, v) :: es) k = valV es k := by
          unfold valV
          rw [List.find?_cons]
          have : decide (x = k) = false := decide_eq_false c
          simp [this]
        rw [e2]
        exact ih
/-- d[k] -/
def fGet (x y : D) (M : Mem) : Res D := match dctOf x M, keyOf y with
  | some (ks, ds), some k => (match valD k ks ds with
    | some d => .ok d M
    | none => .bad)
  | _, _ => .bad
def mGet (mx my : SE) : SE := fun ρ M => (mx ρ M).bind fun x M1 => (my ρ M1).bind fun y M2 => fGet x y M2
theorem snd_get {tx ty : TE} {mx my : SE} (hx : Snd K W tx mx) (hy : Snd K W ty my) : Snd K W (tDGet tx ty) (mGet mx my) := fun hid σ ρ M ad H Q k r h => by
  refine hx.step k r (pV K hid Q (wx W σ)) h fun x M1 vx ad1 H1 f1 k1 rx r1 h1 => ?_
  refine hy.step k1 r1 (pV K hid Q (wx W σ)) h1 fun y M2 vy ad2 H2 f2 k2 ry r2 h2 => ?_
  have rx2 := Rp.le f2.le x rx
  unfold fGet at h2
  cases e1 : dctOf x M2 with
  | none =>
    rw [e1] at h2
    exact h2.elim
  | some p =>
    obtain ⟨ks, ds⟩ := p
    rw [e1] at h2
    cases e2 : keyOf y with
    | none =>
      rw [e2] at h2
      exact h2.elim
    | some kk =>
      rw [e2] at h2
      have h3 : (pV K hid Q (wx W σ)).P M2 ad2 H2 (match valD kk ks ds with
        | some d => .ok d M2
        | none => .bad) := h2
      cases e3 : valD kk ks ds with
      | none =>
        rw [e3] at h3
        exact h3.elim
      | some d =>
        rw [e3] at h3
        obtain ⟨a, es, g1, g2, g3, g4⟩ := dctOf_rp k2 e1 rx2
        subst g3
        obtain ⟨v, q1, q2⟩ := (valD_rp (k := kk) g4).2 d e3
        have g5 := keyOf_rp e2 ry
        subst g1 g5
        exact ⟨a, v, rfl, by rw [← q1]; exact DGet.k g2, h3 v ad2 H2 Fr.refl k2 q2⟩
/-- k in d -/
def fDIn (neg : Bool) (y x : D) (M : Mem) : Res D := match dctOf x M, keyOf y with
  | some (ks, ds), some k => .ok (.bl (if neg then !(valD k ks ds).isSome else (valD k ks ds).isSome)) M
  | _, _ => .bad
def mDIn (neg : Bool) (my mx : SE) : SE := fun ρ M => (my ρ M).bind fun y M1 => (mx ρ M1).bind fun x M2 => fDIn neg y x M2
theorem din_key {neg : Bool} {x y : D} {vx vy : V} {Q : VK} {E : XK} (k : Ok K hid M ad H) (rx : Rp K (wd hid M ad H) x vx) (ry : Rp K (wd hid M ad H) y vy) (h : (pV K hid Q E).P M ad H (fDIn neg y x M)) :
    ∃ a o, vx = .ref a ∧ DGet H a vy o ∧ Q (.bl (if neg then !o.isSome else o.isSome)) H := by
  unfold fDIn at h
  cases e1 : dctOf x M with
  | none =>
    rw [e1] at h
    exact h.elim
  | some p =>
    obtain ⟨ks, ds⟩ := p
    rw [e1] at h
    cases e2 : keyOf y with
    | none =>
      rw [e2] at h
      exact h.elim
    | some kk =>
      rw [e2] at h
      obtain ⟨a, es, g1, g2, g3, g4⟩ := dctOf_rp k e1 rx
      subst g3
      have g5 := keyOf_rp e2 ry
      subst g1 g5
      refine ⟨a, valV es kk, rfl, DGet.k g2, ?_⟩
      have e3 : (valV es kk).isSome = (valD kk (es.map (·.1)) ds).isSome := by
        obtain ⟨q1, q2⟩ := valD_rp (k := kk) g4
        cases e4 : valD kk (es.map (·.1)) ds with
        | none => rw [q1 e4]; rfl
        | some d =>
          obtain ⟨v, q3, _⟩ := q2 d e4
          rw [q3]
          rfl
      rw [e3]
      exact h _ ad H Fr.refl k (rp_bl _)
theorem snd_din {tx ty : TE} {mx my : SE} (hy : Snd K W ty my) (hx : Snd K W tx mx) : Snd K W (tDIn ty tx) (mDIn false my mx) := fun hid σ ρ M ad H Q k r h => by
  refine hy.step k r (pV K hid Q (wx W σ)) h fun y M1 vy ad1 H1 f1 k1 ry r1 h1 => ?_
  refine hx.step k1 r1 (pV K hid Q (wx W σ)) h1 fun x M2 vx ad2 H2 f2 k2 rx r2 h2 => ?_
  exact din_key k2 rx (Rp.le f2.le y ry) h2
theorem snd_dnotin {tx ty : TE} {mx my : SE} (hy : Snd K W ty my) (hx : Snd K W tx mx) : Snd K W (tDNotIn ty tx) (mDIn true my mx) := fun hid σ ρ M ad H Q k r h => by
  refine hy.step k r (pV K hid Q (wx W σ)) h fun y M1 vy ad1 H1 f1 k1 ry r1 h1 => ?_
  refine hx.step k1 r1 (pV K hid Q (wx W σ)) h1 fun x M2 vx ad2 H2 f2 k2 rx r2 h2 => ?_
  exact din_key k2 rx (Rp.le f2.le y ry) h2
/-- d[k] = e, d a dict of the memory -/
def repV (k : Key) (d : D) : List Key → List D → List D
  | x :: ks, e :: ds => (if x = k then d else e) :: repV k d ks ds
  | _, ds => ds
def hasK (k : Key) (ks : List Key) : Bool := ks.any fun x => decide (x = k)
def putKs (k : Key) (ks : List Key) : List Key := if hasK k ks = true then ks else ks ++ [k]
def putVs (k : Key) (d : D) (ks : List Key) (ds : List D) : List D := if hasK k ks = true then repV k d ks ds else ds ++ [d]
theorem any_key {es : List (Key × V)} {k : Key} : (es.any fun kv => decide (kv.1 = k)) = hasK k (es.map (·.1)) := by
  unfold hasK
  rw [List.any_map]
  rfl
theorem putK_ks {es : List (Key × V)} {k : Key} {v : V} : (L2.putK es k v).map (·.1) = putKs k (es.map (·.1)) := by
  unfold L2.putK putKs
  rw [any_key]
  by_cases c : hasK k (es.map (·.1)) = true
  · rw [if_pos c, if_pos c, List.map_map]
    refine List.map_congr_left fun p _ => ?_
    show (if p.1 = k then (p.1, v) else p).1 = p.1
    by_cases e : p.1 = k
    · rw [if_pos e]
    · rw [if_neg e]
  · rw [if_neg c, if_neg c, List.map_append]
    rfl
theorem rep_rp {W' : Wd} {k : Key} {d : D} {v : V} (rv : Rp K W' d v) : ∀ {es : List (Key × V)} {ds : List D}, RpL K W' ds (es.map (·.2)) → RpL K W' (repV k d (es.map (·.1)) ds) ((es.map fun kv => if kv.1 = k then (kv.1, v) else kv).map (·.2))
  | [], ds, r => r
  | (x, u) :: es, ds, r => by
    cases ds with
    | nil =>
      have := r.nilI
      cases this
    | cons d0 ds =>
      obtain ⟨v0, r0, e0, h1, h2⟩ := r.consI
      cases e0
      show RpL K W' ((if x = k then d else d0) :: repV k d (es.map (·.1)) ds) ((if x = k then (x, v) else (x, u)).2 :: _)
      by_cases c : x = k
      · rw [if_pos c, if_pos c]
        exact RpL.cons rv (rep_rp rv h2)
      · rw [if_neg c, if_neg c]
        exact RpL.cons h1 (rep_rp rv h2)
theorem putK_vs {W' : Wd} {es : List (Key × V)} {k : Key} {d : D} {v : V} {ds : List D} (rv : Rp K W' d v) (r : RpL K W' ds (es.map (·.2))) : RpL K W' (putVs k d (es.map (·.1)) ds) ((L2.putK es k v).map (·.2)) := by
  unfold L2.putK putVs
  rw [any_key]
  by_cases c : hasK k (es.map (·.1)) = true
  · rw [if_pos c, if_pos c]
    exact rep_rp rv r
  · rw [if_neg c, if_neg c, List.map_append]
    exact r.append (RpL.cons rv RpL.nil)
def objOf : D → Option Nat
  | .obj j => some j
  | _ => none
theorem objOf_some {x : D} {j : Nat} (h : objOf x = some j) : x = .obj j := by
  cases x with
  | obj i =>
    cases h
    rfl
  | _ => cases h
def fPut2 (d : D) (ρ : Rho) (M : Mem) (j : Nat) (k : Key) : Option MO → Res Fl
  | some (.dct ks ds) => if ks.length < sizeLine then .ok (.nx ρ) (M.set j (.dct (putKs k ks) (putVs k d ks ds))) else .bad
  | _ => .bad
def fPut1 (d : D) (ρ : Rho) (M : Mem) : Option Nat → Option Key → Res Fl
  | some j, some k => fPut2 d ρ M j k (M[j]?)
  | _, _ => .bad
def fPutD (d x y : D) (ρ : Rho) (M : Mem) : Res Fl := fPut1 d ρ M (objOf x) (keyOf y)
def mPutD (me mo mi : SE) : SS := fun ρ M => liftE (me ρ M) ρ fun d M1 => liftE (mo ρ M1) ρ fun x M2 => liftE (mi ρ M2) ρ fun y M3 => fPutD d x y ρ M3
theorem snd_putD {te to ti : TE} {me mo mi : SE} (he : Snd K W te me) (ho : Snd K W to mo) (hi : Snd K W ti mi) : SndS K W (tAsg te (gSub to ti rSetD)) (mPutD me mo mi) := fun hid σ ρ M ad H E st q => by
  refine he.stepS st q fun d M1 v ad1 H1 f1 s1 rv q1 => ?_
  refine ho.stepS s1 q1 fun x M2 vx ad2 H2 f2 s2 rx q2 => ?_
  refine hi.stepS s2 q2 fun y M3 vy ad3 H3 f3 s3 ry q3 => ?_
  have rv3 := Rp.le (f2.trans f3).le d rv
  have rx3 := Rp.le f3.le x rx
  have q4 : PostS K W hid (hS hid ρ σ) M3 ad3 H3 E (fPut1 d ρ M3 (objOf x) (keyOf y)) := q3
  cases e1 : objOf x with
  | none =>
    rw [e1] at q4
    exact q4.elim
  | some j =>
    rw [e1] at q4
    have := objOf_some e1
    subst this
    cases e2 : keyOf y with
    | none =>
      rw [e2] at q4
      exact q4.elim
    | some k =>
      rw [e2] at q4
      have q5 : PostS K W hid (hS hid ρ σ) M3 ad3 H3 E (fPut2 d ρ M3 j k (M3[j]?)) := q4
      simp only [Rp] at rx3
      obtain ⟨a, ex, ea⟩ := rx3
      cases e : M3[j]? with
      | none =>
        rw [e] at q5
        exact q5.elim
      | some o =>
        rw [e] at q5
        cases o with
        | dct ks ds =>
          have q6 : PostS K W hid (hS hid ρ σ) M3 ad3 H3 E (if ks.length < sizeLine then (Res.ok (.nx ρ) (M3.set j (.dct (putKs k ks) (putVs k d ks ds))) : Res Fl) else .bad) := q5
          by_cases c : ks.length < sizeLine
          · rw [if_pos c] at q6
            obtain ⟨es, g1, g2, g3⟩ := s3.ok.ob j _ a e ea
            subst g2
            obtain ⟨f4, k4⟩ := mem_set (u := .dK (L2.putK es k v)) (o' := .dct (putKs k (es.map (·.1))) (putVs k d (es.map (·.1)) ds)) s3.ok e (by intro z; cases z) ea (by intro z; cases z)
            have k5 := k4 ⟨L2.putK es k v, upd_same, putK_ks, putK_vs (Rp.le f4.le d rv3) (RpL.le f4.le ds g3)⟩
            have ey := keyOf_rp e2 ry
            subst ey
            refine ⟨a, _, ex, DPut.k g1 (by simpa using c), ?_⟩
            exact q6 σ ad3 _ (FrG.of f4 fun _ z => .inl z) (s3.fr f4 k5)
          · rw [if_neg c] at q6
            exact q6.elim
        | _ => exact q5.elim
def keyD : Key → D
  | .inl i => .int i
  | .inr z => .str z
theorem keyD_rp {W' : Wd} (k : Key) : Rp K W' (keyD k) (kV k) := by
  cases k with
  | inl i => exact rp_int i
  | inr z => exact rp_str z
theorem keysD_rp {W' : Wd} : ∀ es : List (Key × V), RpL K W' ((es.map (·.1)).map keyD) (es.map fun kv => kV kv.1)
  | [] => RpL.nil
  | p :: r => RpL.cons (keyD_rp p.1) (keysD_rp r)
def fListD : D → Mem → Res D := fun d M => match dctOf d M with
  | some (ks, _) => .ok (.lst (ks.map keyD)) M
  | none => .bad
theorem cb_listD : CbS K (fun xs H Q => ∃ (a : Addr) (kvs : List (Key × V)), xs = [.ref a] ∧ Rd H a (.dK kvs) ∧ ∀ p, H p = none → Q (.ref p) (upd H p (.lst (kvs.map fun kv => kV kv.1)))) (f1 fListD) := cb1 fun hid M ad H d v Q E k r q => by
  unfold fListD at q
  cases e : dctOf d M with
  | none =>
    rw [e] at q
    exact q.elim
  | some p =>
    obtain ⟨ks, ds⟩ := p
    rw [e] at q
    obtain ⟨a, es, g1, g2, g3, g4⟩ := dctOf_rp k e r
    subst g1 g3
    refine ⟨a, es, rfl, .inl g2, fun p hp => ?_⟩
    obtain ⟨f2, k2, r2⟩ := new_lst k hp (keysD_rp es)
    exact q _ ad _ f2 k2 r2
theorem new_dctF {p : Addr} {es : List (Key × V)} {ds : List D} (k : Ok K hid M ad H) (hp : H p = none) (r : RpL K (wd hid M ad H) ds (es.map (·.2))) :
    Fr hid M ad H M ad (upd H p (.dK es)) ∧ Ok K (hidA hid p) M ad (upd H p (.dK es)) ∧ MOk K (wd (hidA hid p) M ad (upd H p (.dK es))) p (.dct (es.map (·.1)) ds) :=
  ⟨Fr.new hp (k.fresh hp), k.hide hp, es, upd_same, rfl, RpL.le (Le.hide hp) ds r⟩
def pairsD : List D → Option (List (Key × D))
  | [] => some []
  | .tup [x, y] :: r => (match keyOf x, pairsD r with
    | some k, some ps => some ((k, y) :: ps)
    | _, _ => none)
  | _ :: _ => none
theorem pairsD_rp {W' : Wd} : ∀ {ds : List D} {ps : List (Key × D)} {vs : List V}, pairsD ds = some ps → RpL K W' ds vs →
    ∃ (as : List Addr) (kvs : List (Key × V)), vs = as.map V.ref ∧ Paired (fun (p : Addr) (kv : Key × V) => SqT K W'.H p [kV kv.1, kv.2]) as kvs ∧ kvs.map (·.1) = ps.map (·.1) ∧ RpL K W' (ps.map (·.2)) (kvs.map (·.2))
  | [], ps, vs, h, r => by
    cases h
    exact ⟨[], [], r.nilI, .nil, rfl, RpL.nil⟩
  | d :: ds, ps, vs, h, r => by
    obtain ⟨v, r1, e1, g1, g2⟩ := r.consI
    cases d with
    | tup l =>
      match l, h, g1 with
      | [x, y], h, g1 =>
        have h' : (match keyOf x, pairsD ds with
          | some k, some ps => some ((k, y) :: ps)
          | _, _ => none) = some ps := h
        cases e2 : keyOf x with
        | none =>
          rw [e2] at h'
          cases h'
        | some k =>
          rw [e2] at h'
          cases e3 : pairsD ds with
          | none =>
            rw [e3] at h'
            cases h'
          | some ps' =>
            rw [e3] at h'
            cases h'
            obtain ⟨as, kvs, q1, q2, q3, q4⟩ := pairsD_rp e3 g2
            simp only [Rp] at g1
            obtain ⟨a, vs2, ea, la, ra⟩ := g1
            obtain ⟨u, r2, e4, g5, g6⟩ := ra.consI
            obtain ⟨w, r3, e5, g7, g8⟩ := g6.consI
            have e6 := g8.nilI
            have e7 := keyOf_rp e2 g5
            subst e6 e5 e4 e7 q1 ea e1
            exact ⟨a :: as, (k, w) :: kvs, rfl, .cons la.sq q2, by rw [List.map_cons, List.map_cons, q3], RpL.cons g7 q4⟩
      | [], h, _ => cases h
      | [_], h, _ => cases h
      | _ :: _ :: _ :: _, h, _ => cases h
    | _ => cases h
def mergeD : List (Key × D) → List Key → List D → List Key × List D
  | [], ks, ds => (ks, ds)
  | (k, d) :: r, ks, ds => mergeD r (putKs k ks) (putVs k d ks ds)
theorem mergeD_rp {W' : Wd} : ∀ {ps : List (Key × D)} {kvs es : List (Key × V)} {ds : List D}, kvs.map (·.1) = ps.map (·.1) → RpL K W' (ps.map (·.2)) (kvs.map (·.2)) → RpL K W' ds (es.map (·.2)) →
    (mergeK es kvs).map (·.1) = (mergeD ps (es.map (·.1)) ds).1 ∧ RpL K W' (mergeD ps (es.map (·.1)) ds).2 ((mergeK es kvs).map (·.2))
  | [], kvs, es, ds, h1, _, h3 => by
    have e : kvs = [] := by
      cases kvs with
      | nil => rfl
      | cons p r => cases h1
    subst e
    exact ⟨rfl, h3⟩
  | (k, d) :: ps, kvs, es, ds, h1, h2, h3 => by
    cases kvs with
    | nil => cases h1
    | cons p kvs =>
      obtain ⟨k', v⟩ := p
      have e1 : k' = k := (List.cons.inj h1).1
      subst e1
      obtain ⟨v0, r0, e0, g1, g2⟩ := h2.consI
      cases e0
      have ih := mergeD_rp (ps := ps) (kvs := kvs) (es := L2.putK es k' v) (ds := putVs k' d (es.map (·.1)) ds) (List.cons.inj h1).2 g2 (putK_vs g1 h3)
      rw [putK_ks] at ih
      exact ih
def rDictP (K : PySem.W.Frag) : List V → Hp → VK → Prop := fun xs H Q => ∃ (a : Addr) (ps : List Addr) (kvs : List (Key × V)), xs = [.ref a] ∧ SqL K H a (ps.map V.ref) ∧ Paired (fun p kv => SqT K H p [kV kv.1, kv.2]) ps kvs ∧ ∀ p, H p = none → Q (.ref p) (upd H p (.dK (mergeK [] kvs)))
def fDictP : D → Mem → Res D := fun d M => match d with
  | .lst ds => (match pairsD ds with
    | some ps => .ok (.dct (mergeD ps [] []).1 (mergeD ps [] []).2) M
    | none => .bad)
  | _ => .bad
/-- a new dict that will change -/
theorem snd_dictPF {ta : TA} {ma : SA} (ha : SndA K W ta ma) : SndF K W (tCB (rDictP K) ta) (mCB (f1 fDictP) ma) := fun hid σ ρ M ad H Q k r h => by
  refine ha.step k r (pF K hid Q (wx W σ)) h fun ds M1 xs ad1 H1 f1' k1 rx r1 h1 => ?_
  match ds, rx, h1 with
  | [d], rx, h1 =>
    obtain ⟨v, r2, e1, g1, g2⟩ := rx.consI
    have e2 := g2.nilI
    subst e1 e2
    cases d with
    | lst es =>
      have h2 : (pF K hid Q (wx W σ)).P M1 ad1 H1 (match pairsD es with
        | some ps => .ok (.dct (mergeD ps [] []).1 (mergeD ps [] []).2) M1
        | none => .bad) := h1
      cases e3 : pairsD es with
      | none =>
        rw [e3] at h2
        exact h2.elim
      | some ps =>
        rw [e3] at h2
        simp only [Rp] at g1
        obtain ⟨a, vs, ea, la, ra⟩ := g1
        obtain ⟨as, kvs, q1, q2, q3, q4⟩ := pairsD_rp e3 ra
        subst ea q1
        refine ⟨a, as, kvs, rfl, SqL.of la.1, q2, fun p hp => ?_⟩
        obtain ⟨m1, m2⟩ := mergeD_rp (es := []) (ds := []) q3 q4 RpL.nil
        obtain ⟨f2, k2, mo⟩ := new_dctF (es := mergeK [] kvs) k1 hp m2
        have m1' : (mergeK [] kvs).map (·.1) = (mergeD ps [] []).1 := m1
        rw [m1'] at mo
        exact h2 p _ _ _ rfl hp f2 k2 mo
    | _ => exact h1.elim
  | [], _, h1 => exact h1.elim
  | _ :: _ :: _, _, h1 => exact h1.elim
end
end DL

end
section
set_option maxHeartbeats 4000000
namespace DL
open PySem PySem.Spec PyProof.Rows L2
section
variable {K : PySem.W.Frag} {hid : Addr → Prop} {M M1 : Mem} {ad ad1 : List Addr} {H H1 : Hp} {σ : L2.St} {ρ : Rho} {W : WX}
def WkP (K : PySem.W.Frag) (P : Mem → Hp → Prop) (hid : Addr → Prop) (M : Mem) (ad : List Addr) (H : Hp) (J : It) (ds : List D) : Prop :=
  ∀ (hid' : Addr → Prop) (M' : Mem) (ad' : List Addr) (H' : Hp), Le (wd hid M ad H) (wd hid' M' ad' H') → P M' H' → Ok K hid' M' ad' H' →
    (∀ (i : Nat) (d : D), ds[i]? = some d → J.go i H' ∧ ∀ x H2, J.yld i H' x H2 → Fr hid' M' ad' H' M' ad' H2 ∧ Ok K hid' M' ad' H2 ∧ Rp K (wd hid' M' ad' H2) d x) ∧ J.stop ds.length H'
theorem WkP.le {P : Mem → Hp → Prop} {hid' : Addr → Prop} {M' : Mem} {ad' : List Addr} {H' : Hp} {J : It} {ds : List D} (w : WkP K P hid M ad H J ds) (l : Le (wd hid M ad H) (wd hid' M' ad' H')) : WkP K P hid' M' ad' H' J ds :=
  fun h2 M2 a2 H2 l2 p2 k2 => w h2 M2 a2 H2 (l.trans l2) p2 k2
def lcGoC (chk : Mem → Bool) (ρ : Rho) (mg : SG) (tt : ST) (te : SE) : List D → Mem → Res (List D)
  | [], M => if chk M = true then .ok [] M else .bad
  | d :: r, M => if chk M = true then (match mg d ρ with
    | none => .bad
    | some ρ1 => (tt ρ1 M).noX.bind fun b M1 => if b = true then (te ρ1 M1).noX.bind fun y M2 => (lcGoC chk ρ mg tt te r M2).bind fun ys M3 => .ok (y :: ys) M3 else lcGoC chk ρ mg tt te r M1) else .bad
theorem lcGoC_nil {chk : Mem → Bool} {ρ : Rho} {mg : SG} {tt : ST} {te : SE} {M : Mem} (h : chk M = true) : lcGoC chk ρ mg tt te [] M = .ok [] M := by
  show (if chk M = true then Res.ok [] M else .bad) = _
  rw [if_pos h]
theorem lcGoC_cons {chk : Mem → Bool} {ρ : Rho} {mg : SG} {tt : ST} {te : SE} {d : D} {r : List D} {M : Mem} (h : chk M = true) : lcGoC chk ρ mg tt te (d :: r) M = (match mg d ρ with
    | none => (.bad : Res (List D))
    | some ρ1 => (tt ρ1 M).noX.bind fun b M1 => if b = true then (te ρ1 M1).noX.bind fun y M2 => (lcGoC chk ρ mg tt te r M2).bind fun ys M3 => .ok (y :: ys) M3 else lcGoC chk ρ mg tt te r M1) := by
  show (if chk M = true then _ else Res.bad) = _
  rw [if_pos h]
theorem lcC_nil {chk : Mem → Bool} {ρ : Rho} {mg : SG} {tt : ST} {te : SE} {M : Mem} {β : Type} {E : XK} {p : Pk K hid E β} {f : List D → Mem → Res β} (h : p.P M1 ad1 H1 ((lcGoC chk ρ mg tt te [] M).bind f)) : chk M = true := by
  cases e : chk M with
  | true => rfl
  | false =>
    have : lcGoC chk ρ mg tt te [] M = .bad := by
      show (if chk M = true then Res.ok [] M else .bad) = _
      rw [e]
      rfl
    rw [this] at h
    exact (p.no h).elim
theorem lcC_cons {chk : Mem → Bool} {ρ : Rho} {mg : SG} {tt : ST} {te : SE} {d : D} {r : List D} {M : Mem} {β : Type} {E : XK} {p : Pk K hid E β} {f : List D → Mem → Res β} (h : p.P M1 ad1 H1 ((lcGoC chk ρ mg tt te (d :: r) M).bind f)) : chk M = true := by
  cases e : chk M with
  | true => rfl
  | false =>
    have : lcGoC chk ρ mg tt te (d :: r) M = .bad := by
      show (if chk M = true then _ else Res.bad) = _
      rw [e]
      rfl
    rw [this] at h
    exact (p.no h).elim
theorem lc_runC {P : Mem → Hp → Prop} {chk : Mem → Bool} {g : TG} {tt : TT} {te : TE} {vs is : List Nat} {mg : SG} {mt : ST} {me : SE} {ds : List D} {J : It} {Q : VK} (hg : SndG K g mg is) (hs : ∀ i ∈ is, i ∈ vs) (ht : SndT K W0 tt mt) (he : Snd K W0 te me) (c : ds.length ≤ sizeLine)
    (k1 : Ok K hid M1 ad1 H1) (wk : WkP K P hid M1 ad1 H1 J ds) (hP : ∀ M' ad' H', chk M' = true → Fr hid M1 ad1 H1 M' ad' H' → P M' H') (r1 : RpS K hid M1 ad1 H1 ρ σ)
    (h1' : (pF K hid Q (wx W σ)).P M1 ad1 H1 ((lcGoC chk (wipeR ρ vs) mg mt me ds M1).bind fun ys M2 => .ok (.lst ys) M2)) : LcR g tt te vs σ Q J H1 := by
  intro Da hD
  have nhD : ¬ hid Da := fun z => k1.hh Da z hD
  -- what is left to do behind i turns
  refine ⟨fun i m H' => m = ds.length - i ∧ i ≤ ds.length ∧ ∃ (M' : Mem) (ad' : List Addr) (acc : List V) (dacc : List D),
    Fr hid M1 ad1 H1 M' ad' H' ∧ Ok K (hidA hid Da) M' ad' H' ∧ RpS K (hidA hid Da) M' ad' H' (wipeR ρ vs) (L2.wipe σ vs) ∧ WkP K P (hidA hid Da) M' ad' H' J ds ∧ H' Da = some (.lst acc) ∧ RpL K (wd (hidA hid Da) M' ad' H') dacc acc ∧ acc.length ≤ i ∧
    (pF K hid Q (wx W σ)).P M1 ad1 H1 ((lcGoC chk (wipeR ρ vs) mg mt me (ds.drop i) M').bind fun ys M2 => .ok (.lst (dacc ++ ys)) M2), ⟨ds.length, by simp, Nat.zero_le _, M1, ad1, [], [], Fr.new hD (k1.fresh hD), k1.hide hD, (r1.hide hD k1.hh).wipe vs, wk.le (Le.hide hD), upd_same, RpL.nil, Nat.le_refl _, h1'⟩, ?_⟩
  rintro i m H' ⟨rfl, hi2, M', ad', acc, dacc, f', k', r', wk', hacc, racc, hla, q⟩
  by_cases hlt : i < ds.length
  · have e1 : ds[i]? = some ds[i] := List.getElem?_eq_getElem hlt
    have e2 : ds.drop i = ds[i] :: ds.drop (i + 1) := List.drop_eq_getElem_cons hlt
    rw [e2] at q
    have hc : chk M' = true := lcC_cons q
    rw [lcGoC_cons hc] at q
    obtain ⟨w1, _⟩ := wk' (hidA hid Da) M' ad' H' (Le.refl _) (hP M' ad' H' hc f') k'
    obtain ⟨go, yl⟩ := w1 i _ e1
    refine .inr ⟨go, _, fun H2 z => ⟨ds.length - (i + 1), by omega, rfl, hlt, z⟩, fun x H2 y => ?_⟩
    obtain ⟨f2, k2, rx⟩ := yl x H2 y
    have q1 : (pF K hid Q (wx W σ)).P M1 ad1 H1 ((match mg ds[i] (wipeR ρ vs) with
      | none => (Res.bad : Res (List D))
      | some ρ1 => (mt ρ1 M').noX.bind fun b M1 => if b = true then (me ρ1 M1).noX.bind fun y M2 => (lcGoC chk (wipeR ρ vs) mg mt me (ds.drop (i + 1)) M2).bind fun ys M3 => .ok (y :: ys) M3 else lcGoC chk (wipeR ρ vs) mg mt me (ds.drop (i + 1)) M1).bind fun ys M2 => .ok (.lst (dacc ++ ys)) M2) := q
    cases eg : mg ds[i] (wipeR ρ vs) with
    | none =>
      rw [eg] at q1
      exact q1.elim
    | some ρ1 =>
      rw [eg] at q1
      have q2 : (pF K hid Q (wx W σ)).P M1 ad1 H1 (((mt ρ1 M').noX.bind fun b M1 => if b = true then (me ρ1 M1).noX.bind fun y M2 => (lcGoC chk (wipeR ρ vs) mg mt me (ds.drop (i + 1)) M2).bind fun ys M3 => .ok (y :: ys) M3 else lcGoC chk (wipeR ρ vs) mg mt me (ds.drop (i + 1)) M1).bind fun ys M2 => .ok (.lst (dacc ++ ys)) M2) := q1
      refine hg _ (L2.wipe σ vs) (wipeR ρ vs) ρ1 M' ad' H2 ds[i] x _ (r'.fr f2) rx eg fun σ2 r2 _ o2 l2 => ⟨?_, ?_⟩
      · rw [wipe_same vs (L2.wipe σ vs) σ2 l2 (fun j hj => o2 j fun z => hj (hs j z))]
        exact wipe_same vs σ (L2.wipe σ vs) (L2.wipe_length σ vs) (fun j hj => L2.wipe_out hj)
      -- the test
      refine ht _ σ2 ρ1 M' ad' H2 _ k2 r2 ?_
      cases et : mt ρ1 M' with
      | exc _ _ _ _ =>
        rw [et] at q2
        exact q2.elim
      | bad =>
        rw [et] at q2
        exact q2.elim
      | ok b M3 =>
        rw [et] at q2
        intro ad3 H3 f3 k3
        have hid3 : ∀ {M4 : Mem} {ad4 : List Addr} {H4 : Hp}, Fr (hidA hid Da) M' ad' H' M4 ad4 H4 → Fr hid M1 ad1 H1 M4 ad4 H4 := fun {M4 ad4 H4} g => by
          refine ⟨⟨?_, fun a o e n => ?_⟩, fun a z => (g.hidk a (.inl z)).trans (f'.hidk a z), fun a z => g.dom a (f'.dom a z)⟩
          · obtain ⟨u1, e1⟩ := f'.le.pre
            obtain ⟨u2, e2⟩ := g.le.pre
            exact ⟨u1 ++ u2, by rw [show ad4 = ad' ++ u2 from e2, show ad' = ad1 ++ u1 from e1, List.append_assoc]⟩
          · obtain ⟨g1, g2⟩ := f'.le.keep a o e n
            have ne : a ≠ Da := fun z => by
              subst z
              have e' : H1 a = some o := e
              rw [hD] at e'
              cases e'
            obtain ⟨g3, g4⟩ := g.le.keep a o g1 fun z => z.elim (fun z => z.elim (fun z => g2 (.inl z)) ne) fun z => g2 (.inr z)
            exact ⟨g3, fun z => g4 (z.elim (fun z => .inl (.inl z)) .inr)⟩
        have fA := f2.trans f3
        cases b with
        | false =>
          rw [if_neg (by decide)]
          have q3 : (pF K hid Q (wx W σ)).P M1 ad1 H1 ((lcGoC chk (wipeR ρ vs) mg mt me (ds.drop (i + 1)) M3).bind fun ys M2 => .ok (.lst (dacc ++ ys)) M2) := q2
          exact ⟨M3, ad3, acc, dacc, hid3 fA, k3, r'.fr fA, wk'.le fA.le, (fA.hidk Da (.inr rfl)).trans hacc, RpL.le fA.le dacc racc, Nat.le_succ_of_le hla, q3⟩
        | true =>
          rw [if_pos rfl]
          have q3 : (pF K hid Q (wx W σ)).P M1 ad1 H1 (((me ρ1 M3).noX.bind fun y M2 => (lcGoC chk (wipeR ρ vs) mg mt me (ds.drop (i + 1)) M2).bind fun ys M3 => .ok (y :: ys) M3).bind fun ys M2 => .ok (.lst (dacc ++ ys)) M2) := q2
          refine he _ σ2 ρ1 M3 ad3 H3 _ k3 (r2.fr f3) ?_
          cases ee : me ρ1 M3 with
          | exc _ _ _ _ =>
            rw [ee] at q3
            exact q3.elim
          | bad =>
            rw [ee] at q3
            exact q3.elim
          | ok dy M4 =>
            rw [ee] at q3
            intro vy ad4 H4 f4 k4 ry
            have fB := fA.trans f4
            have q4 : (pF K hid Q (wx W σ)).P M1 ad1 H1 (((lcGoC chk (wipeR ρ vs) mg mt me (ds.drop (i + 1)) M4).bind fun ys M3 => .ok (dy :: ys) M3).bind fun ys M2 => .ok (.lst (dacc ++ ys)) M2) := q3
            have hacc4 : H4 Da = some (.lst acc) := (fB.hidk Da (.inr rfl)).trans hacc
            refine ⟨acc, hacc4, Nat.lt_of_lt_of_le (Nat.lt_of_le_of_lt hla hlt) c, M4, ad4, acc ++ [vy], dacc ++ [dy], ?_, k4.hidSet (.inr rfl), ?_, ?_, upd_same, ?_, ?_, ?_⟩
            · have g := hid3 fB
              refine ⟨⟨g.le.pre, fun a o e n => ?_⟩, fun a z => ?_, fun a z => ?_⟩
              · obtain ⟨g1, g2⟩ := g.le.keep a o e n
                have ne : a ≠ Da := fun z => by
                  subst z
                  have e' : H1 a = some o := e
                  rw [hD] at e'
                  cases e'
                exact ⟨by show upd H4 Da _ a = _; rw [upd_ne ne]; exact g1, g2⟩
              · rw [upd_ne (fun e : a = Da => nhD (by rw [← e]; exact z))]
                exact g.hidk a z
              · by_cases e : a = Da
                · subst e
                  rw [upd_same]
                  simp
                · rw [upd_ne e]
                  exact g.dom a z
            · refine (r'.fr fB).hidSet (.inr rfl) ?_
              rintro ⟨j, o, z1, z2⟩
              obtain ⟨a2, z3, z4, _⟩ := (r1.wipe vs).own j o z1
              rw [z2] at z3
              cases z3
              exact nhD z4
            · exact wk'.le (fB.le.trans (Le.hidSet (.inr rfl)))
            · exact (RpL.le (fB.le.trans (Le.hidSet (.inr rfl))) dacc racc).append (RpL.cons (Rp.le (Le.hidSet (.inr rfl)) dy ry) RpL.nil)
            · rw [List.length_append, List.length_singleton]
              omega
            · cases eg2 : lcGoC chk (wipeR ρ vs) mg mt me (ds.drop (i + 1)) M4 with
              | ok ys M5 =>
                rw [eg2] at q4
                show (pF K hid Q (wx W σ)).P M1 ad1 H1 (.ok (.lst (dacc ++ [dy] ++ ys)) M5)
                rw [List.append_assoc]
                exact q4
              | exc _ _ _ _ =>
                rw [eg2] at q4
                exact q4
              | bad =>
                rw [eg2] at q4
                exact q4
  · have e : i = ds.length := by omega
    subst e
    rw [List.drop_length] at q
    have hc : chk M' = true := lcC_nil q
    rw [lcGoC_nil hc] at q
    obtain ⟨_, w2⟩ := wk' (hidA hid Da) M' ad' H' (Le.refl _) (hP M' ad' H' hc f') k'
    have q1 : (pF K hid Q (wx W σ)).P M1 ad1 H1 (.ok (.lst (dacc ++ [])) M') := q
    rw [List.append_nil] at q1
    exact .inl ⟨w2, q1 Da _ ad' H' rfl hD f' k' ⟨acc, hacc, racc⟩⟩
end
end DL

end
section
set_option maxHeartbeats 4000000
namespace DL
open PySem PySem.Spec PyProof.Rows L2
section
variable {K : PySem.W.Frag} {hid : Addr → Prop} {M M1 : Mem} {ad ad1 : List Addr} {H H1 : Hp} {σ : L2.St} {ρ : Rho} {W : WX}
def mNever : SS := fun _ _ => .bad
theorem snd_never : SndS K W tNever mNever := fun hid σ ρ M ad H E st h => h.elim
/-- a class of the text as a value -/
theorem snd_cls (c : Str) : Snd K W (tC (.ref (He.ga K c))) (mC (.cls c)) := snd_c fun _ => by simp [Rp]
theorem all_nil {α : Type} {p : α → Prop} : ∀ c, c ∈ ([] : List α) → p c := fun _ h => by cases h
theorem all_cons {α : Type} {p : α → Prop} {a : α} {l : List α} (h : p a) (r : ∀ c, c ∈ l → p c) : ∀ c, c ∈ a :: l → p c := fun c m => by
  rcases List.mem_cons.mp m with e | m
  · rw [e]; exact h
  · exact r c m
theorem freeze_lst (k : Ok K hid M ad H) {j : Nat} {ds : List D} {a : Addr} (e : M[j]? = some (.lst ds)) (ea : ad[j]? = some a) :
    Fr hid M ad H (M.set j .dead) ad H ∧ Ok K hid (M.set j .dead) ad H ∧ Rp K (wd hid (M.set j .dead) ad H) (.lst ds) (.ref a) := by
  have hl := (List.getElem?_eq_some_iff.mp e).1
  have lv : ∀ i, lvI (M.set j .dead) i → lvI M i ∧ i ≠ j := fun i ⟨o, z1, z2⟩ => by
    by_cases q : j = i
    · subst q
      rw [List.getElem?_set_self hl] at z1
      cases z1
      exact absurd rfl z2
    · rw [List.getElem?_set_ne q] at z1
      exact ⟨⟨o, z1, z2⟩, fun z => q z.symm⟩
  have bd : ∀ b, badOf hid (M.set j .dead) ad b → badOf hid M ad b := fun b z => z.elim .inl fun ⟨i, z1, z2⟩ => .inr ⟨i, (lv i z1).1, z2⟩
  have le : Le (wd hid M ad H) (wd hid (M.set j .dead) ad H) := ⟨⟨[], by simp⟩, fun b o h n => ⟨h, fun z => n (bd b z)⟩⟩
  have lj : lvI M j := ⟨_, e, by intro z; cases z⟩
  obtain ⟨vs, g1, g3⟩ := k.ob j _ a e ea
  refine ⟨⟨le, fun _ _ => rfl, fun _ h => h⟩, ⟨by rw [List.length_set]; exact k.len, fun i l b z1 z2 => k.inj i l b (lv i z1).1 (lv l z2).1, fun i b z1 => k.nh i b (lv i z1).1, fun i o b z1 z2 => ?_, k.hh⟩, ?_⟩
  · by_cases q : j = i
    · subst q
      rw [List.getElem?_set_self hl] at z1
      cases z1
      trivial
    · rw [List.getElem?_set_ne q] at z1
      exact MOk.le le rfl (k.ob i o b z1 z2)
  · simp only [Rp]
    refine ⟨a, vs, rfl, ⟨g1, ?_⟩, RpL.le le ds g3⟩
    rintro (z | ⟨i, z1, z2⟩)
    · exact k.nh j a lj ea z
    · obtain ⟨z3, z4⟩ := lv i z1
      exact z4 (k.inj i j a z3 lj z2 ea)
/-- the slot i: a list of the memory, from now on a value -/
def fzGo (i j : Nat) (m : SS) (ρ : Rho) (M : Mem) : Option MO → Res Fl
  | some (.lst ds) => m (ρ.set i (.val (.lst ds))) (M.set j .dead)
  | _ => .bad
def mFz (i : Nat) (m : SS) : SS := fun ρ M => match ρ[i]? with
  | some (.val (.obj j)) => fzGo i j m ρ M (M[j]?)
  | _ => .bad
theorem set_back {α : Type} {l : List α} {i : Nat} {x : α} (h : l[i]? = some x) : l.set i x = l := by
  apply List.ext_getElem?
  intro n
  by_cases q : i = n
  · subst q
    rw [List.getElem?_set_self (List.getElem?_eq_some_iff.mp h).1, h]
  · rw [List.getElem?_set_ne q]
theorem snd_fz {i : Nat} {t : TS} {m : SS} (h : SndS K W t m) : SndS K W t (mFz i m) := fun hid σ ρ M ad H E st q => by
  unfold mFz at q
  cases e : ρ[i]? with
  | none =>
    rw [e] at q
    exact q.elim
  | some z =>
    rw [e] at q
    cases z with
    | val d =>
      cases d with
      | obj j =>
        have q1 : PostS K W hid (hS hid ρ σ) M ad H E (fzGo i j m ρ M (M[j]?)) := q
        obtain ⟨v, h1, h2⟩ := st.rp.val i _ e
        simp only [Rp] at h2
        obtain ⟨a, ev, ea⟩ := h2
        subst ev
        cases e2 : M[j]? with
        | none =>
          rw [e2] at q1
          exact q1.elim
        | some o =>
          rw [e2] at q1
          cases o with
          | lst ds =>
            have q2 : PostS K W hid (hS hid ρ σ) M ad H E (m (ρ.set i (.val (.lst ds))) (M.set j .dead)) := q1
            obtain ⟨f, k2, r2⟩ := freeze_lst st.ok e2 ea
            have st2 := st.fr f k2
            obtain ⟨st3, f3⟩ := st2.put (i := i) r2
            rw [set_back h1] at st3 f3
            exact h hid σ _ _ ad H E st3 (PostS.fr ((FrG.of f fun _ z => .inl z).trans f3) q2)
          | _ => exact q1.elim
      | _ => exact q.elim
    | _ => exact q.elim
def rIns : V → List V → Hp → VK → Prop := fun x vs H Q => ∃ (l : Addr) (xs : List V) (i : Int) (y : V), x = .ref l ∧ vs = [.int i, y] ∧ H l = some (.lst xs) ∧ xs.length < sizeLine ∧ 0 ≤ i ∧ i < 2 ^ 63 ∧
  Q .non (upd H l (.lst (xs.take i.toNat ++ [y] ++ xs.drop i.toNat)))
def fIns3 (j : Nat) (i : Int) (d : D) (M : Mem) : Option MO → Res D
  | some (.lst ds) => if ds.length < sizeLine ∧ 0 ≤ i ∧ i < 2 ^ 63 then .ok .non (M.set j (.lst (ds.take i.toNat ++ [d] ++ ds.drop i.toNat))) else .bad
  | _ => .bad
def fIns (x y d : D) (M : Mem) : Res D := match x, y with
  | .obj j, .int i => fIns3 j i d M (M[j]?)
  | _, _ => .bad
def mInsert (mo mi me : SE) : SE := fun ρ M => (mo ρ M).bind fun x M1 => match lstAt x M1 with
  | some _ => (mi ρ M1).bind fun y M2 => (me ρ M2).bind fun d M3 => fIns x y d M3
  | none => .bad
theorem snd_insert {to ti te : TE} {mo mi me : SE} (ho : Snd K W to mo) (hi : Snd K W ti mi) (he : Snd K W te me) : Snd K W (tBM K "list" rIns to (tCons ti (tCons te tNil))) (mInsert mo mi me) := fun hid σ ρ M ad H Q kk rr h => by
  refine ho.step kk rr (pV K hid Q (wx W σ)) h fun x M1 vx ad1 H1 f1 k1 rx r1 h1 => ?_
  cases e0 : lstAt x M1 with
  | none =>
    rw [e0] at h1
    exact h1.elim
  | some ds0 =>
    rw [e0] at h1
    have q : (pV K hid Q (wx W σ)).P M1 ad1 H1 ((mi ρ M1).bind fun y M2 => (me ρ M2).bind fun d M3 => fIns x y d M3) := h1
    obtain ⟨j, rfl, ej⟩ := lstAt_some e0
    have rx0 := rx
    simp only [Rp] at rx
    obtain ⟨a, ex, ea⟩ := rx
    obtain ⟨vs0, g0, _⟩ := k1.ob j _ a ej ea
    subst ex
    refine ⟨.inl ⟨rfl, vs0, SqL.of g0⟩, ?_⟩
    refine hi.step k1 r1 (pV K hid Q (wx W σ)) q fun y M2 vy ad2 H2 f2 k2 ry r2 q2 => ?_
    refine he.step k2 r2 (pV K hid Q (wx W σ)) q2 fun d M3 v ad3 H3 f3 k3 rv r3 q3 => ?_
    have ea2 : ad3[j]? = some a := by
      have := Rp.le (f2.trans f3).le _ rx0
      simp only [Rp] at this
      obtain ⟨a', e1, e2⟩ := this
      cases e1
      exact e2
    cases y with
    | int i =>
      have ey : vy = .int i := by simpa only [Rp] using ry
      subst ey
      have q4 : (pV K hid Q (wx W σ)).P M3 ad3 H3 (fIns3 j i d M3 (M3[j]?)) := q3
      cases e : M3[j]? with
      | none =>
        rw [e] at q4
        exact q4.elim
      | some o =>
        rw [e] at q4
        cases o with
        | lst ds =>
          have q5 : (pV K hid Q (wx W σ)).P M3 ad3 H3 (if ds.length < sizeLine ∧ 0 ≤ i ∧ i < 2 ^ 63 then Res.ok .non (M3.set j (.lst (ds.take i.toNat ++ [d] ++ ds.drop i.toNat))) else .bad) := q4
          by_cases c : ds.length < sizeLine ∧ 0 ≤ i ∧ i < 2 ^ 63
          · rw [if_pos c] at q5
            obtain ⟨vs, g1, g2⟩ := k3.ob j _ a e ea2
            obtain ⟨f4, k4⟩ := mem_set (u := .lst (vs.take i.toNat ++ [v] ++ vs.drop i.toNat)) (o' := .lst (ds.take i.toNat ++ [d] ++ ds.drop i.toNat)) k3 e (by intro z; cases z) ea2 (by intro z; cases z)
            have g3 := RpL.le f4.le ds g2
            have k5 := k4 ⟨_, upd_same, ((g3.take i.toNat).append (RpL.cons (Rp.le f4.le d rv) RpL.nil)).append (g3.drop i.toNat)⟩
            exact ⟨a, vs, i, v, rfl, rfl, g1, by rw [g2.len]; exact c.1, c.2.1, c.2.2, q5 .non ad3 _ f4 k5 (by simp [Rp])⟩
          · rw [if_neg c] at q5
            exact q5.elim
        | _ => exact q4.elim
    | _ => exact q3.elim
def fLenM : D → Mem → Res D := fun d M => match lstAt d M with
  | some ds => .ok (.int ds.length) M
  | none => .bad
theorem cb_lenM : CbS K (fun xs H Q => ∃ x n, xs = [x] ∧ LenV K x H n ∧ Q (.int n) H) (f1 fLenM) := cb1 fun hid M ad H d v Q E k r q => by
  unfold fLenM at q
  cases e : lstAt d M with
  | none =>
    rw [e] at q
    exact q.elim
  | some ds =>
    rw [e] at q
    obtain ⟨j, rfl, ej⟩ := lstAt_some e
    simp only [Rp] at r
    obtain ⟨a, ex, ea⟩ := r
    obtain ⟨vs, g1, g2⟩ := k.ob j _ a ej ea
    subst ex
    refine ⟨.ref a, ds.length, rfl, ?_, q _ ad H Fr.refl k (rp_int _)⟩
    rw [← g2.len]
    exact .inl ⟨vs, SqL.of g1, rfl⟩
def fLenA : List D → Mem → Res D := fun ds M => (f1 fLen ds M).els (f1 fLenM ds M)
theorem cb_lenA : CbS K (fun xs H Q => ∃ x n, xs = [x] ∧ LenV K x H n ∧ Q (.int n) H) fLenA := cb_len.els cb_lenM
def dfK (z : Str) : List Key → List Str → List D
  | k :: ks, s :: ss => if s = z then keyD k :: dfK z ks ss else dfK z ks ss
  | _, _ => []
def dfilt2 (z : Str) (ks : List Key) (M : Mem) : Option (List Str) → Res D
  | some ss => if ks.length ≤ sizeLine ∧ ks.Nodup then .ok (.lst (dfK z ks ss)) M else .bad
  | none => .bad
def dfilt1 (z : Str) (M : Mem) : Option MO → Res D
  | some (.dct ks ds) => dfilt2 z ks M (strsD ds)
  | _ => .bad
def dfilt0 (M : Mem) (x d r : Nat) (n : Nat) : Option Sl → Option Sl → Res D
  | some (.val (.obj j)), some (.val (.str z)) => if d ≠ x ∧ r ≠ x ∧ x < n then dfilt1 z M (M[j]?) else .bad
  | _, _ => .bad
def mDFilt (d x r : Nat) : SE := fun ρ M => dfilt0 M x d r ρ.length (ρ[d]?) (ρ[r]?)
def dfV (z : Str) : List (Key × V) → List V
  | (k, v) :: es => if v = .str z then kV k :: dfV z es else dfV z es
  | [] => []
theorem dfV_len (z : Str) : ∀ es : List (Key × V), (dfV z es).length ≤ es.length
  | [] => Nat.le_refl _
  | (k, v) :: es => by
    have := dfV_len z es
    unfold dfV
    split
    · simp only [List.length_cons]; omega
    · simp only [List.length_cons]; omega
theorem dfV_app (z : Str) : ∀ (es fs : List (Key × V)), dfV z (es ++ fs) = dfV z es ++ dfV z fs
  | [], _ => rfl
  | (k, v) :: es, fs => by
    show (if v = .str z then kV k :: dfV z (es ++ fs) else dfV z (es ++ fs)) = (if v = .str z then kV k :: dfV z es else dfV z es) ++ dfV z fs
    rw [dfV_app z es fs]
    split <;> rfl
theorem dfK_rp {W' : Wd} (z : Str) : ∀ (es : List (Key × V)) (ss : List Str), es.map (·.2) = ss.map V.str → RpL K W' (dfK z (es.map (·.1)) ss) (dfV z es)
  | [], _, _ => by unfold dfK dfV; exact RpL.nil
  | (k, v) :: es, [], h => by cases h
  | (k, v) :: es, s :: ss, h => by
    have h1 : v = .str s := (List.cons.inj h).1
    have h2 : es.map (·.2) = ss.map V.str := (List.cons.inj h).2
    have ih := dfK_rp (W' := W') z es ss h2
    show RpL K W' (if s = z then keyD k :: dfK z (es.map (·.1)) ss else dfK z (es.map (·.1)) ss) (if v = .str z then kV k :: dfV z es else dfV z es)
    by_cases c : s = z
    · rw [if_pos c, if_pos (by rw [h1, c])]
      exact RpL.cons (keyD_rp k) ih
    · rw [if_neg c, if_neg (by rw [h1]; intro q; cases q; exact c rfl)]
      exact ih
theorem valV_at : ∀ {es : List (Key × V)} {i : Nat} {k : Key} {v : V}, (es.map (·.1)).Nodup → es[i]? = some (k, v) → valV es k = some v := by
  intro es
  induction es with
  | nil => intro i k v _ h; simp at h
  | cons p es ih =>
    intro i k v nd h
    obtain ⟨k0, v0⟩ := p
    have nd' : k0 ∉ es.map (·.1) ∧ (es.map (·.1)).Nodup := by
      have := List.nodup_cons.mp (show (k0 :: es.map (·.1)).Nodup from nd)
      exact this
    cases i with
    | zero =>
      simp at h
      obtain ⟨rfl, rfl⟩ := h
      unfold valV
      simp
    | succ i =>
      have h' : es[i]? = some (k, v) := by simpa using h
      have hm : k ∈ es.map (·.1) := List.mem_map.mpr ⟨(k, v), List.mem_of_getElem? h', rfl⟩
      have ne : k0 ≠ k := fun q => nd'.1 (q ▸ hm)
      have := ih nd'.2 h'
      unfold valV at this ⊢
      rw [List.find?_cons]
      have : decide (k0 = k) = false := decide_eq_false ne
      simp [this]
      simpa using ‹Option.map (fun x => x.snd) (List.find? (fun kv => decide (kv.fst = k)) es) = some v›
theorem df_at : ∀ {es : List (Key × V)} {i : Nat} {k : Key} {v : V} (z : Str), es[i]? = some (k, v) → dfV z (es.take (i + 1)) = dfV z (es.take i) ++ (if v = .str z then [kV k] else []) := fun {es i k v} z h => by
  rw [List.take_succ, h, dfV_app]
  congr 1
theorem snd_dfiltF {d x r : Nat} : SndF K W (tLockE (tLc (iKeys (tVar d)) (gName x) (tTest (tOp (rEqA K) (tDGet (tVar d) (tVar x)) (tVar r))) (tVar x) [x])) (mDFilt d x r) := fun hid σ ρ M ad H Q k rr h => by
  have h0 : (pF K hid Q (wx W σ)).P M ad H (dfilt0 M x d r ρ.length (ρ[d]?) (ρ[r]?)) := h
  cases e1 : ρ[d]? with
  | none =>
    rw [e1] at h0
    exact h0.elim
  | some s1 =>
    cases e2 : ρ[r]? with
    | none =>
      rw [e1, e2] at h0
      cases s1 with
      | val dd => cases dd <;> exact h0.elim
      | _ => exact h0.elim
    | some s2 =>
      rw [e1, e2] at h0
      cases s1 with
      | val dd =>
        cases dd with
        | obj j =>
          cases s2 with
          | val d2 =>
            cases d2 with
            | str z =>
              have h1 : (pF K hid Q (wx W σ)).P M ad H (if d ≠ x ∧ r ≠ x ∧ x < ρ.length then dfilt1 z M (M[j]?) else .bad) := h0
              by_cases c : d ≠ x ∧ r ≠ x ∧ x < ρ.length
              · rw [if_pos c] at h1
                obtain ⟨c1, c2, c3⟩ := c
                cases e3 : M[j]? with
                | none =>
                  rw [e3] at h1
                  exact h1.elim
                | some o =>
                  rw [e3] at h1
                  cases o with
                  | dct ks ds =>
                    have h2 : (pF K hid Q (wx W σ)).P M ad H (dfilt2 z ks M (strsD ds)) := h1
                    cases e4 : strsD ds with
                    | none =>
                      rw [e4] at h2
                      exact h2.elim
                    | some ss =>
                      rw [e4] at h2
                      have h3 : (pF K hid Q (wx W σ)).P M ad H (if ks.length ≤ sizeLine ∧ ks.Nodup then Res.ok (.lst (dfK z ks ss)) M else .bad) := h2
                      by_cases c4 : ks.length ≤ sizeLine ∧ ks.Nodup
                      · rw [if_pos c4] at h3
                        obtain ⟨v1, g1, g2⟩ := rr.val d _ e1
                        simp only [Rp] at g2
                        obtain ⟨a, rfl, ea⟩ := g2
                        obtain ⟨v2, g3, g4⟩ := rr.val r _ e2
                        obtain rfl : v2 = .str z := by simpa only [Rp] using g4
                        obtain ⟨es, q1, q2, q3⟩ := k.ob j _ a e3 ea
                        subst q2
                        have q4 : es.map (·.2) = ss.map V.str := strs_rp e4 q3
                        have hH : H a = some (.dK es) := q1
                        refine ⟨a, .dK es, hH, trivial, fun od => ?_⟩
                        have fz : upd H a (.frz od (.dK es)) a = some (.frz od (.dK es)) := upd_same
                        refine ⟨.ref a, g1, a, od, rfl, .inl ⟨es, fz, fun D hD => ?_⟩⟩
                        have nDa : D ≠ a := fun q => by rw [q, fz] at hD; cases hD
                        have hD0 : H D = none := by rw [upd_ne nDa] at hD; exact hD
                        have lnes : es.length ≤ sizeLine := by rw [List.length_map] at c4; exact c4.1
                        refine lc_it (J := Itk a od es) (n := es.length) (G := fun H' => H' a = some (.frz od (.dK es))) (Y := fun i H0 x H' => H' = H0 ∧ ∃ k v, es[i]? = some (k, v) ∧ x = kV k) ⟨fun i H' hi e => ⟨e, hi⟩, fun H' e => ⟨e, Nat.le_refl _⟩, fun i H0 x H' hi e y => y⟩
                          (fun i H' => H' = upd (upd H a (.frz od (.dK es))) D (.lst (dfV z (es.take i)))) rfl (fun i H' hi e => ?_) (fun i x0 H0 H' hi p y => ?_) fun H' p => ?_
                        · rw [e, upd_ne (fun q => nDa q.symm)]
                          exact fz
                        · obtain ⟨e5, kk, vv, e6, e7⟩ := y
                          subst e5 e7 p
                          have la : upd (upd H a (.frz od (.dK es))) D (.lst (dfV z (es.take i))) a = some (.frz od (.dK es)) := by rw [upd_ne (fun q => nDa q.symm)]; exact fz
                          have sx : ((L2.wipe σ [x]).set x (some (kV kk)))[x]? = some (some (kV kk)) := by
                            rw [List.getElem?_set_self]
                            rw [wipe_length, rr.len]
                            exact c3
                          have sd : ((L2.wipe σ [x]).set x (some (kV kk)))[d]? = some (some (.ref a)) := by
                            show ((σ.set x none).set x (some (kV kk)))[d]? = _
                            rw [List.getElem?_set_ne (fun q => c1 q.symm), List.getElem?_set_ne (fun q => c1 q.symm)]
                            exact g1
                          have sr : ((L2.wipe σ [x]).set x (some (kV kk)))[r]? = some (some (.str z)) := by
                            show ((σ.set x none).set x (some (kV kk)))[r]? = _
                            rw [List.getElem?_set_ne (fun q => c2 q.symm), List.getElem?_set_ne (fun q => c2 q.symm)]
                            exact g3
                          obtain ⟨s, hs⟩ : ∃ s, vv = V.str s := by
                            have : vv ∈ es.map (·.2) := List.mem_map.mpr ⟨(kk, vv), List.mem_of_getElem? e6, rfl⟩
                            rw [q4] at this
                            obtain ⟨s, _, e⟩ := List.mem_map.mp this
                            exact ⟨s, e.symm⟩
                          subst hs
                          refine ⟨?_, .ref a, sd, kV kk, sx, a, .str s, rfl, .inl ⟨es, kk, .inr ⟨od, la⟩, rfl, (valV_at c4.2 e6).symm⟩, .str z, sr, .inl ⟨rfl, decide (V.str s = V.str z), rfl, ?_⟩⟩
                          · show ((σ.set x none).set x (some (kV kk))).set x none = σ.set x none
                            rw [List.set_set, List.set_set]
                          · by_cases cz : V.str s = V.str z
                            · rw [decide_eq_true cz]
                              refine iteT ?_
                              refine ⟨kV kk, sx, dfV z (es.take i), upd_same, ?_, ?_⟩
                              · have := dfV_len z (es.take i)
                                have h5 : (es.take i).length = i := by rw [List.length_take]; omega
                                omega
                              · show upd (upd (upd H a (.frz od (.dK es))) D (.lst (dfV z (es.take i)))) D (.lst (dfV z (es.take i) ++ [kV kk])) = upd (upd H a (.frz od (.dK es))) D (.lst (dfV z (es.take (i + 1))))
                                rw [upd_upd, df_at z e6, if_pos cz]
                            · rw [decide_eq_false cz]
                              refine iteF ?_
                              show upd (upd H a (.frz od (.dK es))) D (.lst (dfV z (es.take i))) = upd (upd H a (.frz od (.dK es))) D (.lst (dfV z (es.take (i + 1))))
                              rw [df_at z e6, if_neg cz, List.append_nil]
                        · have p' : H' = upd (upd H a (.frz od (.dK es))) D (.lst (dfV z es)) := by
                            rw [p, List.take_length]
                          subst p'
                          have e8 : upd (upd (upd H a (.frz od (.dK es))) D (.lst (dfV z es))) a (.dK es) = upd H D (.lst (dfV z es)) := by
                            funext b
                            by_cases b1 : b = a
                            · subst b1
                              rw [upd_same, upd_ne (fun q => nDa q.symm), hH]
                            · rw [upd_ne b1]
                              by_cases b2 : b = D
                              · subst b2
                                rw [upd_same, upd_same]
                              · rw [upd_ne b2, upd_ne b2, upd_ne b1]
                          refine ⟨by rw [upd_ne (fun q => nDa q.symm)]; exact fz, ?_⟩
                          rw [e8]
                          obtain ⟨f1, k1, m1⟩ := new_lstF k hD0 (dfK_rp (W' := wd hid M ad H) z es ss q4)
                          exact h3 D _ ad _ rfl hD0 f1 k1 m1
                      · rw [if_neg c4] at h3
                        exact h3.elim
                  | _ => exact h1.elim
              · rw [if_neg c] at h1
                exact h1.elim
            | _ => exact h0.elim
          | _ => exact h0.elim
        | _ => exact h0.elim
      | _ => exact h0.elim
end
end DL

end
section
set_option maxHeartbeats 4000000
namespace SU
open PySem PySem.Spec PyProof.Rows L2 NdefX DL StX He
section
variable {K : PySem.W.Frag}
/-- two ways to one address -/
def sameB (a b : PySem.W.Frag → Addr) : PySem.W.Frag → Bool := fun K => decide (a K = b K)
theorem sameB_ok {a b : PySem.W.Frag → Addr} (h : sameB a b K = true) : a K = b K := of_decide_eq_true h
def eqcB (C : Str) : PySem.W.Frag → Bool := fun K => eqO (PySem.W.findIn K (.ref (ga K C)) "__eq__") (some (some (.ref (ma K (ga K C) "__eq__")))) && (eqO (PySem.W.findIn K (.ref (ga K C)) "__ne__") (some (some (.builtin "object.__ne__"))) &&
  (PySem.W.isFn K (.ref (ma K (ga K C) "__eq__")) && decide (PySem.W.mroIn K (ga K C) (.type "object") = some true)))
theorem eqcB_ok {C : Str} (h : eqcB C K = true) : EqC K (ga K C) (ma K (ga K C) "__eq__") := by
  obtain ⟨h1, h⟩ := ba h
  obtain ⟨h2, h⟩ := ba h
  obtain ⟨h3, h4⟩ := ba h
  exact ⟨eqO_ok h1, eqO_ok h2, h3, of_decide_eq_true h4⟩
/-- an own __repr__ -/
def reprB (C : Str) : PySem.W.Frag → Bool := fun K => eqO (PySem.W.findIn K (.ref (ga K C)) "__repr__") (some (some (.ref (ma K (ga K C) "__repr__")))) && PySem.W.isFn K (.ref (ma K (ga K C) "__repr__"))
theorem reprB_ok {C : Str} (h : reprB C K = true) : PySem.W.findIn K (.ref (ga K C)) "__repr__" = some (some (.ref (ma K (ga K C) "__repr__"))) ∧ PySem.W.isFn K (.ref (ma K (ga K C) "__repr__")) = true := by
  obtain ⟨h1, h2⟩ := ba h
  exact ⟨eqO_ok h1, h2⟩
def instB (C : Str) : PySem.W.Frag → Bool := fun K => eqO (PySem.W.findIn K (.ref (ga K C)) "__class__") (some (some (.builtin "object.__class__"))) && (eqO (PySem.W.specialIn K (.builtin "object.__class__") "__get__") (some (some (.builtin "getset_descriptor.__get__"))) &&
  (decide (PySem.W.takesIn K (.builtin "object.__class__") = some true) && decide (PySem.W.mroIn K (ga K C) (.type "object") = some true)))
theorem instB_ok {C : Str} (c : Cls K (ga K C)) (h : instB C K = true) : InsT K (ga K C) := by
  obtain ⟨h1, h⟩ := ba h
  obtain ⟨h2, h⟩ := ba h
  obtain ⟨h3, h4⟩ := ba h
  exact ⟨c, eqO_ok h1, eqO_ok h2, of_decide_eq_true h3, of_decide_eq_true h4⟩
/-- super().m of an instance of C in a def of D stands at g -/
def supB (D C : Str) (m : Str) (g : PySem.W.Frag → Addr) : PySem.W.Frag → Bool := fun K => decide (PySem.W.mroIn K (ga K C) (.ref (ga K D)) = some true) && (eqO (PySem.W.ks_superIn K (ga K C) (ga K D) m) (some (some (.ref (g K)))) &&
  (decide (PySem.W.typeIn K (.ref (g K)) = some (.type "function")) && PySem.W.fnIn K (g K)))
theorem supB_ok {X : Cx} {D C m : Str} {g : PySem.W.Frag → Addr} (e : X.K = K) (nc : (m == ("__class__" : Str)) = false) (h : supB D C m g K = true) : SupM X (ga K D) (ga K C) m (g K) := by
  subst e
  obtain ⟨h1, h⟩ := ba h
  obtain ⟨h2, h⟩ := ba h
  obtain ⟨h3, h4⟩ := ba h
  exact ⟨of_decide_eq_true h1, eqO_ok h2, of_decide_eq_true h3, h4, nc⟩
def anyB : PySem.W.Frag → Bool := fun K => eqO (PySem.W.nsIn K cStatics "thirdparty.any") (some none)
theorem anyB_ok (h : anyB K = true) : PySem.W.nsIn K cStatics "thirdparty.any" = some none := eqO_ok h
def kitB (t : TyE) (c : Str) (b : Bool) : PySem.W.Frag → Bool := fun K => decide (PySem.W.kitOne K (t.val K) (.ref (ga K c)) = some b)
theorem kitB_ok {t : TyE} {c : Str} {b : Bool} (h : kitB t c b K = true) : PySem.W.kitOne K (t.val K) (.ref (ga K c)) = some b := of_decide_eq_true h
def nfB (c : Str) (t : TyE) : PySem.W.Frag → Bool := fun K => PySem.W.notFirst K (ga K c) (t.val K)
def subB (c2 c : Str) : PySem.W.Frag → Bool := fun K => decide (ga K c ≠ ga K c2) && decide (PySem.W.subIn K (.ref (ga K c2)) (.ref (ga K c)) = some true)
theorem subB_ok {c2 c : Str} (h : subB c2 c K = true) : ga K c ≠ ga K c2 ∧ PySem.W.subIn K (.ref (ga K c2)) (.ref (ga K c)) = some true := by
  obtain ⟨h1, h2⟩ := ba h
  exact ⟨of_decide_eq_true h1, of_decide_eq_true h2⟩
end
section
variable {K : PySem.W.Frag} {x qual : Str} {params : Arguments} {body : List Stmt} {scope : Scope} {kws : List (Str × V)} {file : Str} {D f cc cda : Addr} {fd : FuncData} {ps : List Str}
/-- no default is taken -/
theorem FunS.bindsN (F : FunS K x qual params body scope [] kws file D f cc cda fd)
    (h : ∀ (kV doc pm : Value) (an : Option Addr) (cdv ct : Value) (cc : Addr) (us : List Value), us.length = ps.length → bindArgs (PySem.W.ksFn x qual params body scope .none kV doc pm an cdv ct cc) ⟨us, []⟩ = pure (ps.zip us)) : Binds K fd ps [] := by
  obtain ⟨oc, od, dV, kV, doc, pm, an, ct, osl, rfl, lk, hcd, hD, hK⟩ := F.ex
  rcases hD with ⟨_, rfl⟩ | ⟨e, _⟩
  · exact .all (h kV doc pm an _ ct cc)
  · exact absurd rfl e
theorem FunS.kbn (F : FunS K x qual params body scope [] kws file D f cc cda fd) (n : Nat) (ks : List Str) (g : {α : Type} → List α → List α → List α)
    (hrel : ∀ {vs zs : List V} {us ws : List Value}, Vals vs us → Vals zs ws → Vals (g vs zs) (g us ws))
    (h : ∀ (kV doc pm : Value) (an : Option Addr) (cdv ct : Value) (cc : Addr) (us ws : List Value), us.length = n → ws.length = ks.length → bindArgs (PySem.W.ksFn x qual params body scope .none kV doc pm an cdv ct cc) ⟨us, ks.zip ws⟩ = pure (ps.zip (g us ws))) :
    KBn K fd ps n ks (fun us ws => g us ws) (fun vs zs => g vs zs) := by
  obtain ⟨oc, od, dV, kV, doc, pm, an, ct, osl, rfl, lk, hcd, hD, hK⟩ := F.ex
  rcases hD with ⟨_, rfl⟩ | ⟨e, _⟩
  · exact ⟨fun s us ws X l1 l2 => .of_eq (h kV doc pm an _ ct cc us ws l1 l2), fun r1 r2 => hrel r1 r2⟩
  · exact absurd rfl e
theorem FunD.kbn (F : FunD K x qual params body scope [] kws f fd) (n : Nat) (ks : List Str) (g : {α : Type} → List α → List α → List α)
    (hrel : ∀ {vs zs : List V} {us ws : List Value}, Vals vs us → Vals zs ws → Vals (g vs zs) (g us ws))
    (h : ∀ (kV doc pm : Value) (an : Option Addr) (cdv ct : Value) (us ws : List Value), us.length = n → ws.length = ks.length → bindArgs (PySem.W.fnOf x qual params body scope .none kV doc pm an cdv ct) ⟨us, ks.zip ws⟩ = pure (ps.zip (g us ws))) :
    KBn K fd ps n ks (fun us ws => g us ws) (fun vs zs => g vs zs) := by
  obtain ⟨oc, od, dV, kV, doc, pm, an, cdv, ct, osl, rfl, lk, hcd, hD, hK⟩ := F.ex
  rcases hD with ⟨_, rfl⟩ | ⟨e, _⟩
  · exact ⟨fun s us ws X l1 l2 => .of_eq (h kV doc pm an cdv ct us ws l1 l2), fun r1 r2 => hrel r1 r2⟩
  · exact absurd rfl e
/-- what a star parameter's def binds, for fn_starKS -/
theorem FunS.star (F : FunS K x qual params body scope [] kws file D f cc cda fd) {np : Nat} {ks : List Str} {g : {α : Type} → List α → α → List α → List α}
    (h : ∀ (kV doc pm : Value) (an : Option Addr) (cdv ct : Value) (cc : Addr) (us rest ws : List Value), us.length = np → ws.length = ks.length → bindArgs (PySem.W.ksFn x qual params body scope .none kV doc pm an cdv ct cc) ⟨us ++ rest, ks.zip ws⟩ = (newTuple rest >>= fun t => pure (ps.zip (g us t ws)))) :
    ∀ (us rest ws : List Value), us.length = np → ws.length = ks.length → bindArgs fd ⟨us ++ rest, ks.zip ws⟩ = (newTuple rest >>= fun t => pure (ps.zip (g us t ws))) := by
  obtain ⟨oc, od, dV, kV, doc, pm, an, ct, osl, rfl, lk, hcd, hD, hK⟩ := F.ex
  rcases hD with ⟨_, rfl⟩ | ⟨e, _⟩
  · exact h kV doc pm an _ ct cc
  · exact absurd rfl e
end
end SU
namespace DL
open PySem PySem.Spec PyProof.Rows L2
section
variable {X : Cx} {K : PySem.W.Frag}
theorem inA3K (h : X.K = K) (hu : X.A.units + 65 < cLine) : OpR X (compareOp .In) (fun x y H Q => rInA K x y H Q ∨ rInDn K false x y H Q) := by subst h; exact opr_in.or (op_inDn hu)
theorem notInA3K (h : X.K = K) (hu : X.A.units + 65 < cLine) : OpR X (compareOp .NotIn) (fun x y H Q => rNotInA K x y H Q ∨ rInDn K true x y H Q) := by subst h; exact opr_notIn.or (op_notInDn hu)
def fIn3 (neg : Bool) : D → D → Mem → Res D := fun x y M => (fIn neg x y M).els (fInD neg x y M)
theorem ops_in3 : OpS K (fun x y H Q => rInA K x y H Q ∨ rInDn K false x y H Q) (fIn3 false) := ops_in.or ops_inDn
theorem ops_notIn3 : OpS K (fun x y H Q => rNotInA K x y H Q ∨ rInDn K true x y H Q) (fIn3 true) := ops_notIn.or ops_inDn
def rMul3 : R2 := fun x y H Q => rMulA x y H Q ∨ rMulS x y H Q
theorem opr_mul3 {X : Cx} : OpR X (binaryOp .Mult) rMul3 := opr_mul.or op_mulS
def fMul3 : D → D → Mem → Res D := fun x y M => (fMul x y M).els (fMulS x y M)
theorem ops_mul3 : OpS K rMul3 fMul3 := ops_mul.or ops_mulS
end
end DL
namespace DL
open PySem PySem.Spec PyProof.Rows L2
section
variable {X : Cx} {K : PySem.W.Frag}
/-- one of two rules of a built-in's call -/
def orR (r r' : List V → Hp → VK → Prop) : List V → Hp → VK → Prop := fun xs H Q => r xs H Q ∨ r' xs H Q
theorem callr_or {b : Value} {r r' : List V → Hp → VK → Prop} (h : CallR X b r) (h' : CallR X b r') : CallR X b (orR r r') := fun pins s σ H xs us Q I r0 q => q.elim (h pins s σ H xs us Q I r0) (h' pins s σ H xs us Q I r0)
theorem CbS.or {r r' : List V → Hp → VK → Prop} {f g : List D → Mem → Res D} (h : CbS K r f) (h' : CbS K r' g) : CbS K (orR r r') (fun ds M => (f ds M).els (g ds M)) := fun hid M ad H ds vs Q E k rx q0 => by
  have q : (pV K hid Q E).P M ad H ((f ds M).els (g ds M)) := q0
  cases e : f ds M with
  | bad =>
    rw [e] at q
    exact .inr (h' hid M ad H ds vs Q E k rx q)
  | ok d M1 =>
    rw [e] at q
    exact .inl (h hid M ad H ds vs Q E k rx (by rw [e]; exact q))
  | exc c ns es M1 =>
    rw [e] at q
    exact .inl (h hid M ad H ds vs Q E k rx (by rw [e]; exact q))
/-- a class constant -/
def fCv (c : Str) (f : Str) (u : D) : D → Mem → Res D := fun d M => match d with
  | .cls c' => if c' = c then .ok u M else .bad
  | _ => .bad
end
end DL
namespace SU
open PySem PySem.Spec PyProof.Rows L2 NdefX DL StX He
section
variable {K : PySem.W.Frag}
theorem methAt {C f g : Addr} {m : Str} (h : Meth K C m f) (e : f = g) : Meth K C m g := e ▸ h
theorem propAt {C g : Addr} {f : Str} (h : propB K C f = true) (e : getterOf K C f = g) : PropOf K C f (ma K C f) g := e ▸ propB_ok h
theorem eqcAt {C : Str} {g : Addr} (h : eqcB C K = true) (e : ma K (ga K C) "__eq__" = g) : EqC K (ga K C) g := e ▸ eqcB_ok h
theorem mkAt {C f g : Addr} (h : Mk K C f) (e : f = g) : Mk K C g := e ▸ h
def crB (C : Str) : PySem.W.Frag → Bool := fun K => PySem.W.readsIn K (ga K C) (.type "type") && eqO (PySem.W.specialIn K (.ref (ga K C)) "__getattribute__") (some (some (.builtin "type.__getattribute__")))
theorem crB_ok {C : Str} (h : crB C K = true) : ClX.CRead K (ga K C) (.type "type") := by
  obtain ⟨h1, h2⟩ := ba h
  exact ⟨h1, eqO_ok h2⟩
/-- an int that stands in a class -/
def cvI (C f : Str) (i : Int) : PySem.W.Frag → Bool := fun K => match PySem.W.findCls K (.ref (ga K C)) (.type "type") f with
  | some (.val (.int j _)) => decide (j = i)
  | _ => false
theorem cvI_ok {C f : Str} {i : Int} (h : cvI C f i K = true) : ∃ u, ClX.CVal K (ga K C) (.type "type") f (.int i) u := by
  unfold cvI at h
  split at h
  · rename_i j t e
    have ej := of_decide_eq_true h
    subst ej
    exact ⟨_, ⟨e, ⟨t, rfl⟩⟩⟩
  · cases h
def mCvI (c : Str) (i : Int) (m : SE) : SE := fun ρ M => (m ρ M).bind fun d M1 => match d with
  | .cls c' => if c' = c then .ok (.int i) M1 else .bad
  | _ => .bad
theorem snd_cvI {W : WX} {c f : Str} {i : Int} {te : TE} {m : SE} (h1 : crB c K = true) (h2 : cvI c f i K = true) (s : Snd K W te m) : Snd K W (ClX.tCVal K te f) (mCvI c i m) := fun hid σ ρ M ad H Q k r h => by
  refine s.step k r (pV K hid Q (wx W σ)) h fun d M1 x ad1 H1 f1 k1 rx r1 q => ?_
  cases d with
  | cls c' =>
    have q2 : (pV K hid Q (wx W σ)).P M1 ad1 H1 (if c' = c then .ok (.int i) M1 else .bad) := q
    by_cases e : c' = c
    · rw [if_pos e] at q2
      subst e
      have ex : x = .ref (ga K c') := by simpa only [Rp] using rx
      obtain ⟨u, cv⟩ := cvI_ok h2
      exact ⟨ga K c', .type "type", .int i, u, ex, crB_ok h1, cv, q2 _ ad1 H1 Fr.refl k1 (rp_int _)⟩
    · rw [if_neg e] at q2
      exact q2.elim
  | _ => exact q.elim
end
end SU

end
section
set_option maxHeartbeats 4000000
namespace L2
open PySem PySem.Spec PyProof.Rows
theorem Room.deep65 {k : Nat} {A : Around} (r : Room k A) : A.units + 65 < cLine := by have := r.un; omega
end L2
namespace DL
open PySem PySem.Spec PyProof.Rows L2
section
variable {X : Cx} {K : PySem.W.Frag}
theorem listK (h : X.K = K) : CallR X (.type "list") (fun xs H Q => ∃ p ys, xs = [.ref p] ∧ (SqL K H p ys ∨ SqT K H p ys) ∧ ∀ l, H l = none → Q (.ref l) (upd H l (.lst ys))) := by subst h; exact call_list_of
theorem tupleK (h : X.K = K) : CallR X (.type "tuple") (fun xs H Q => ∃ p ys, xs = [.ref p] ∧ ((SqL K H p ys ∧ ∀ l, H l = none → Q (.ref l) (upd H l (.tup ys))) ∨ (SqT K H p ys ∧ Q (.ref p) H))) := by subst h; exact call_tuple_of
theorem sumK (h : X.K = K) (hc : X.calm = true) : CallR X (.builtin "sum") (rSum K) := by subst h; exact cr_sum hc
theorem maxLK (h : X.K = K) (hc : X.calm = true) : CallR X (.builtin "max") (rMax K) := by subst h; exact cr_max hc
theorem minLK (h : X.K = K) (hc : X.calm = true) : CallR X (.builtin "min") (rMin K) := by subst h; exact cr_min hc
theorem dictPK (h : X.K = K) (hc : X.calm = true) : CallR X (.type "dict") (rDictP K) := by subst h; exact call_dictP hc
theorem strK : CallR X (.type "str") (fun xs H Q => (∃ i : Int, xs = [.int i] ∧ i.natAbs.log2 < 1920 ∧ Q (.str (toString i)) H) ∨ ∃ a, xs = [.str a] ∧ Q (.str a) H) := fun pins s σ H xs us Q I r q => q.elim (call_str_int pins s σ H xs us Q I r) (SkE.call_str_str pins s σ H xs us Q I r)
variable {CX : CXT} {n : Nat} {f C C2 : Addr} {fd : FuncData} {ps : List Str} {sp : Sp} {P : Program} {w : World} {mg : Str → Option Value} {base : Heap}
theorem eqOwnK (h : X.K = K) (c : EqC K C f) (F : FnOk P w K mg base CX n f fd ps sp) (hb : Binds K fd ps []) (h1 : X.prog = P) (h2 : X.w = w) (h3 : X.mg = mg) (h4 : X.base = base) (hx : Passes CX X.nox fun _ _ _ => False) (hr : Room n X.A) : OpR X (compareOp .Eq) (rEqOwn K C false sp) := by
  subst h h1 h2 h3 h4; exact op_eqOwn c F hb hx hr
theorem neOwnK (h : X.K = K) (c : EqC K C f) (F : FnOk P w K mg base CX n f fd ps sp) (hb : Binds K fd ps []) (h1 : X.prog = P) (h2 : X.w = w) (h3 : X.mg = mg) (h4 : X.base = base) (hx : Passes CX X.nox fun _ _ _ => False) (hr : Room (n + 1) X.A) : OpR X (compareOp .NotEq) (rEqOwn K C true sp) := by
  subst h h1 h2 h3 h4; exact op_neOwn c F hb hx hr
theorem eqFstK (h : X.K = K) (C : Addr) (c : EqC K C2 f) (F : FnOk P w K mg base CX n f fd ps sp) (hb : Binds K fd ps []) (h1 : X.prog = P) (h2 : X.w = w) (h3 : X.mg = mg) (h4 : X.base = base) (hx : Passes CX X.nox fun _ _ _ => False) (hr : Room n X.A) : OpR X (compareOp .Eq) (rEqFst K C C2 sp) := by
  subst h h1 h2 h3 h4; exact op_eqFst c F hb hx hr
theorem reprOwnK (h : X.K = K) (hs : PySem.W.findIn K (.ref C) "__repr__" = some (some (.ref f))) (hf : PySem.W.isFn K (.ref f) = true) (F : FnOk P w K mg base CX n f fd ps sp) (hb : Binds K fd ps []) (h1 : X.prog = P) (h2 : X.w = w) (h3 : X.mg = mg) (h4 : X.base = base) (hx : Passes CX X.nox fun _ _ _ => False) (hr : Room (n + 1) X.A) :
    CallR X (.builtin "repr") (rReprOwn C sp) := by
  subst h h1 h2 h3 h4; exact call_reprOwn hs hf F hb hx hr
end
end DL

end
section
set_option maxHeartbeats 4000000
namespace LM
open PySem PySem.Spec PyProof.Rows L2
/-- the clause's classes are a tuple of these -/
def TestT (X : Cx) (te : Expr) (cs : List Value) : Prop := ∀ (a : Addr) (oe : Obj) (pn : List (Addr × Obj)) (σ : L2.St) (H : Hp) (s : Shared) (Q : Value → Shared → Prop) (E : Value → Shared → Prop), Inv (X.suite a ((a, oe) :: pn)) [] σ H s →
  Q (.ref s.heap.objs.size) { s with heap := s.heap.push ({ cls := .type "tuple", data := .seq cs.toArray } : Obj) } → wpAny (model X.prog X.w) (X.A.mark (some (.ref a))) (eval te X.env) Q E s
/-- such a tuple matches as its classes do -/
def MatT (cs : List Value) : Prop := ∀ (M : Model) (K : PySem.W.Frag) (h : Heap) (tp e : Addr) (cls : Value) (b : Bool), K.In h → PySem.W.Looks M h (typeOf (.ref e)) cls → h.get? tp = some ({ cls := .type "tuple", data := .seq cs.toArray } : Obj) → PySem.W.exmAny K cls cs = some b → PySem.W.Looks M h (excMatches (.ref e) (.ref tp)) b
theorem mat2 {c1 c2 : Value} : MatT [c1, c2] := fun M K h tp e cls b k lt hp hx => PySem.W.exm_tup2 k lt hp hx
theorem mat3 {c1 c2 c3 : Value} : MatT [c1, c2, c3] := fun M K h tp e cls b k lt hp hx => PySem.W.exm_tup3 k lt hp hx
section
variable {X : Cx} {x x1 x2 x3 : Str} {c c1 c2 c3 : Value} {np p1 p2 p3 tp : Pos} {k : Nat}
theorem name_ld {a : Addr} {oe : Obj} {pn : List (Addr × Obj)} {σ : L2.St} {H : Hp} {s : Shared} {Q : Value → Shared → Prop} {E : Value → Shared → Prop} (hc : Names X x c) (S : Inv (X.suite a ((a, oe) :: pn)) [] σ H s) (q : Q c s) :
    wpAny (model X.prog X.w) (X.A.mark (some (.ref a))) (eval (.Name x np) X.env) Q E s := by
  obtain ⟨hg, hdbg, hm | ⟨hm, hv, hnn⟩⟩ := hc
  · exact ld_glob (X := X.suite a ((a, oe) :: pn)) S hg hm q hdbg
  · exact ld_blt (X := X.suite a ((a, oe) :: pn)) S hg hm hv q hnn hdbg
theorem test2 (h1 : Names X x1 c1) (h2 : Names X x2 c2) : TestT X (.Tuple [.Name x1 p1, .Name x2 p2] k tp) [c1, c2] := fun a oe pn σ H s Q E S q => by
  refine Tuple_ (spliced_more (name_ld h1 S (spliced_more (name_ld h2 S (spliced_none ?_)))))
  exact wpAny_newObj_type q
theorem test3 (h1 : Names X x1 c1) (h2 : Names X x2 c2) (h3 : Names X x3 c3) : TestT X (.Tuple [.Name x1 p1, .Name x2 p2, .Name x3 p3] k tp) [c1, c2, c3] := fun a oe pn σ H s Q E S q => by
  refine Tuple_ (spliced_more (name_ld h1 S (spliced_more (name_ld h2 S (spliced_more (name_ld h3 S (spliced_none ?_)))))))
  exact wpAny_newObj_type q
end
theorem flying_keep {B : Heap} {l : List Env} {a : Addr} {Z : Obj → Prop} {h h' : Heap} (f : HandSPX.FlyingZ B l a Z h) (k : ∀ b o, h.get? b = some o → h'.get? b = some o) : HandSPX.FlyingZ B l a Z h' := by
  obtain ⟨f1, f2, f3, oe, vs, T, oT, ts, e1, e2, e3, e4, e5, e6, e7, e8, e9⟩ := f
  exact ⟨fun b o e => k _ _ (f1 b o e), f2, f3.of_keeps fun b o e _ => ⟨o, k _ _ e, rfl⟩, oe, vs, T, oT, ts, k _ _ e1, e2, e3, e4, e5, e6, k _ _ e7, e8, e9⟩
theorem upTo_keep {h h' : Heap} (k : ∀ b o, h.get? b = some o → h'.get? b = some o) : h.UpToSlots h' := fun b o e _ => ⟨o.slots, k b o e⟩
/-- what the clause 'except (c1, ..) as n' wishes of an exception of the body: slot i is n's -/
def wAsT (K : PySem.W.Frag) (cs : List Value) (i : Nat) (ts : Addr → Obj → Value → Option Addr → TS) (Wout : WX) (D : Ends) : WX := fun cls d σ H =>
  ∃ b, PySem.W.exmAny K cls cs = some b ∧ (b = true → ∀ a oe, H a = none → Zc cls d oe → (∃ vs, oe.data = .fields vs) → ts a oe cls d { nx := fun σ' H' => D.nx (σ'.set i none) H', rt := D.rt, bk := fun σ' H' => D.bk (σ'.set i none) H', ct := fun σ' H' => D.ct (σ'.set i none) H' } (σ.set i (some (.ref a))) H) ∧
    (b = false → Wout cls d σ H)
/-- .. without a name -/
def wOnT (K : PySem.W.Frag) (cs : List Value) (ts : Addr → Obj → Value → Option Addr → TS) (Wout : WX) (D : Ends) : WX := fun cls d σ H =>
  ∃ b, PySem.W.exmAny K cls cs = some b ∧ (b = true → ∀ a oe, H a = none → Zc cls d oe → (∃ vs, oe.data = .fields vs) → ts a oe cls d D σ H) ∧ (b = false → Wout cls d σ H)
section
variable {X : Cx} {n : Str} {cs : List Value} {i : Nat} {body suite : List Stmt} {b₀ : Stmt} {te : Expr} {pos pos' : Pos} {tb : WX → TS} {ts : Addr → Obj → Value → Option Addr → TS} {Wout : WX}
theorem ps_try_asT (hs : X.stack = X.env :: X.outer) (hf : X.env.frame = some X.env.locals) (hN : X.N.Nodup) (hi : X.N[i]? = some n) (hln : X.env.kindOf n = some .local) (hc : TestT X te cs) (hm : MatT cs) (tk : Takes X Wout)
    (hb : ∀ (W : WX) (pn : List (Addr × Obj)) (xe : Value → Shared → Prop), Takes (X.tr pn xe) W → PassesOwn (model X.prog X.w) X.A X.env xe → PSs (X.tr pn xe) body (tb W))
    (hsu : ∀ (a : Addr) (oe : Obj) (cls : Value) (d : Option Addr) (pn : List (Addr × Obj)), Zc cls d oe → (∃ vs, oe.data = .fields vs) → X.base.get? a = none → PSs (X.suite a ((a, oe) :: pn)) (b₀ :: suite) (ts a oe cls d)) :
    PS X (.Try body [.ExceptHandler (some te) (some n) (b₀ :: suite) pos'] [] [] pos) (fun D σ H => tb (wAsT X.K cs i ts Wout D) D σ H) := by
  refine ⟨fun pins s σ H D I h => ?_⟩
  have ok := I.ok
  have hfr : X.A.frames = some (X.env :: X.outer) := by rw [ok.frames, hs]
  have hloc : Loc X.env.scope n := .inl hln
  refine wpAny_Try_except ?_
  refine wpAny_mono ((hb (wAsT X.K cs i ts Wout D) (X.pn ++ pins) (fun e s₁ => wpAny (model X.prog X.w) X.A (noteFrame e X.env) (fun _ s₂ => wpAny (model X.prog X.w) X.A (setFlight e none) (fun _ s₃ =>
    wpAny (model X.prog X.w) X.A (handleBy e X.env [.ExceptHandler (some te) (some n) (b₀ :: suite) pos']) (SP X pins D) X.xe s₃) X.xe s₂) X.xe s₁) (fun u s' xx => ?_) PassesOwn.looking).run [] s σ H D (I.toTry _) h) (fun f s1 hsp => ?_) (fun e s1 he => he)
  · obtain ⟨a, B, sI, pins', σ', H', cls, d, rfl, J', nb, up, sky, na, os, ag, b, hb1, hyes, hno⟩ := xx
    have J : Inv X pins σ' H' sI := J'.ofTry ok
    have sky' : Sky B (X.env :: X.outer) a (Zc cls d) X.env.locals s'.heap := by rw [← hs]; exact sky
    show wpAny (model X.prog X.w) X.A (noteFrame (.ref a) X.env) _ _ _
    refine Sky.land Zc.steady hfr hf sky' fun h2 fl2 up2 => ?_
    have J2 : Inv X pins σ' H' { s' with heap := h2 } := J.landed nb fl2.1 (up.trans up2) os ag
    obtain ⟨oe2, vs2, he2, hz2, hd2⟩ := fl2.there
    have notFr : ∀ {h : Heap} {o : Obj} {vs : Array Value}, h.FunFrames B (X.env :: X.outer) → h.get? a = some o → o.data = .fields vs → a ∉ frs (X.env :: X.outer) := fun {h o vs} ff e dd hm => by
      obtain ⟨_, o', e', hnf⟩ := ff.mem hm
      rw [e] at e'; cases e'
      exact hnf _ dd
    have nfr := notFr fl2.2.2.1 he2 hd2
    have nL : a ≠ X.env.locals := fun z => nfr (List.mem_filterMap.mpr ⟨X.env, List.mem_cons_self, by rw [hf, z]⟩)
    have nF : a ∉ X.fs := fun hm => by
      obtain ⟨e, he, q⟩ := List.mem_filterMap.mp hm
      exact nfr (List.mem_filterMap.mpr ⟨e, List.mem_cons_of_mem _ he, q⟩)
    have S2 := J2.suite he2 hd2 na nL nF
    have nb0 : X.base.get? a = none := by
      cases z : X.base.get? a with
      | none => rfl
      | some o =>
        have z1 := nb a o (J.bk a o z) (by rw [hs]; exact nfr)
        rw [fl2.2.1] at z1
        cases z1
    refine wpAny_handleBy_cons (codeAny_handlers_test ?_) (by intro q; cases q)
    refine hc a oe2 _ _ _ _ _ _ S2 ?_
    have kp : ∀ b o, h2.get? b = some o → (h2.push ({ cls := .type "tuple", data := .seq cs.toArray } : Obj)).get? b = some o := fun b o e => Heap.get?_push_of_some _ e
    have gt : (h2.push ({ cls := .type "tuple", data := .seq cs.toArray } : Obj)).get? h2.objs.size = some ({ cls := .type "tuple", data := .seq cs.toArray } : Obj) := Heap.get?_push_size _ rfl
    have fl3 : HandSPX.FlyingZ B (X.env :: X.outer) a (Zc cls d) (h2.push ({ cls := .type "tuple", data := .seq cs.toArray } : Obj)) := flying_keep fl2 kp
    have up3 : s'.heap.UpToSlots (h2.push ({ cls := .type "tuple", data := .seq cs.toArray } : Obj)) := up2.trans (upTo_keep kp)
    show wpAny _ _ (excMatches (.ref a) (.ref h2.objs.size)) _ _ { s' with heap := h2.push ({ cls := .type "tuple", data := .seq cs.toArray } : Obj) }
    generalize h2.push ({ cls := .type "tuple", data := .seq cs.toArray } : Obj) = h3 at kp gt fl3 up3 ⊢
    have J3 : Inv X pins σ' H' { s' with heap := h3 } := J.landed nb fl3.1 (up.trans up3) os ag
    obtain ⟨oe3, vs3, he3, hz3, hd3⟩ := fl3.there
    have LT : PySem.W.Looks (model X.prog X.w) h3 (typeOf (.ref a)) cls := fun A Q E s k q => wpAny_typeOf_ref (k _ _ he3) (by rw [hz3.1]; exact q)
    have LM := hm (model X.prog X.w) X.K h3 h2.objs.size a cls b J3.kIn LT gt hb1
    refine LM.here ?_
    cases b with
    | true =>
      refine codeAny_handlers_suite_as ?_
      refine HandSPX.lands_againZ fl3 fun h4 fl4 up4 => ?_
      have J4 : Inv X pins σ' H' { s' with heap := h4 } := J.landed nb fl4.1 ((up.trans up3).trans up4) os ag
      obtain ⟨oe4, vs4, he4, hz4, hd4⟩ := fl4.there
      have S4 := J4.suite he4 hd4 na nL nF
      refine store_ok (X := X.suite a ((a, oe4) :: (X.pn ++ pins))) (v := .ref a) S4 hN hi hloc rfl (fun s5 S5 => ?_) (.inr hln)
      refine wpAny_mono ((hsu a oe4 cls d (X.pn ++ pins) hz4 ⟨_, hd4⟩ nb0).run [] s5 _ H' _ S5 (hyes rfl a oe4 na hz4 ⟨_, hd4⟩)) (fun f s6 hsp => ?_) (fun _ _ z => False.elim z)
      have end_ : ∀ {σ6 : L2.St} {H6 : Hp} {Q : Shared → Prop}, Inv (X.suite a ((a, oe4) :: (X.pn ++ pins))) [] σ6 H6 s6 → (∀ s7, Inv X pins (σ6.set i none) H6 s7 → Q s7) →
          wpAny (model X.prog X.w) X.A (do bindName X.env n .none; unbindBehindTheSuite X.env n pos') (fun _ s7 => Q s7) X.xe s6 := fun {σ6 H6 Q} S6 hq => gone_ok (S6.unsuite ok) hN hi hln hq
      cases f with
      | next =>
        obtain ⟨σ6, H6, S6, q6⟩ := hsp
        exact end_ S6 fun s7 J7 => ⟨_, _, J7, q6⟩
      | brk =>
        obtain ⟨σ6, H6, S6, q6⟩ := hsp
        exact end_ S6 fun s7 J7 => ⟨_, _, J7, q6⟩
      | cont =>
        obtain ⟨σ6, H6, S6, q6⟩ := hsp
        exact end_ S6 fun s7 J7 => ⟨_, _, J7, q6⟩
      | ret u =>
        obtain ⟨v6, σ6, H6, S6, r6, q6⟩ := hsp
        exact end_ S6 fun s7 J7 => ⟨_, _, _, J7, r6, q6⟩
    | false =>
      show wpAny _ X.A (handleBy (.ref a) X.env []) _ _ _
      refine wpAny_handleBy_nil ?_
      obtain ⟨k1, k2, k3, oe, vs, T, oT, ts', he, hz, hd, h1, hr⟩ := id fl3
      unfold PySem.passOn
      refine wpAny_bind (wpAny_field he hd h1 ?_)
      rw [if_neg (show ¬ ((Value.ref T == Value.none) = true) from by simp)]
      have fin : wpAny (model X.prog X.w) X.A (setFlight (.ref a) X.env.frame) (fun _ s4 => wpAny (model X.prog X.w) X.A (throw (.ref a) : Sem Flow) (SP X pins D) X.xe s4) X.xe { s' with heap := h3 } := by
        rw [hf]
        refine HandSPX.setFlight_upZ fl3 fun h4 hh4 up4 => wpAny_throw (tk _ _ ?_)
        exact ⟨a, B, sI, pins, σ', H', cls, d, rfl, J, nb, (up.trans up3).trans up4, .inr (.inr (by rw [hs]; exact hh4)), na, os, ag, hno rfl⟩
      first
        | exact wpAny_bind (wpAny_pure (wpAny_bind fin))
        | exact wpAny_bind fin
  · cases f with
    | next =>
      obtain ⟨σ', H', J', q⟩ := hsp
      exact wpAny_execs_nil ⟨σ', H', J'.ofTry ok, q⟩
    | brk =>
      obtain ⟨σ', H', J', q⟩ := hsp
      exact ⟨σ', H', J'.ofTry ok, q⟩
    | cont =>
      obtain ⟨σ', H', J', q⟩ := hsp
      exact ⟨σ', H', J'.ofTry ok, q⟩
    | ret u =>
      obtain ⟨v, σ', H', J', r, q⟩ := hsp
      exact ⟨v, σ', H', J'.ofTry ok, r, q⟩
theorem ps_try_onT (hs : X.stack = X.env :: X.outer) (hf : X.env.frame = some X.env.locals) (hc : TestT X te cs) (hm : MatT cs) (tk : Takes X Wout)
    (hb : ∀ (W : WX) (pn : List (Addr × Obj)) (xe : Value → Shared → Prop), Takes (X.tr pn xe) W → PassesOwn (model X.prog X.w) X.A X.env xe → PSs (X.tr pn xe) body (tb W))
    (hsu : ∀ (a : Addr) (oe : Obj) (cls : Value) (d : Option Addr) (pn : List (Addr × Obj)), Zc cls d oe → (∃ vs, oe.data = .fields vs) → X.base.get? a = none → PSs (X.suite a ((a, oe) :: pn)) (b₀ :: suite) (ts a oe cls d)) :
    PS X (.Try body [.ExceptHandler (some te) none (b₀ :: suite) pos'] [] [] pos) (fun D σ H => tb (wOnT X.K cs ts Wout D) D σ H) := by
  refine ⟨fun pins s σ H D I h => ?_⟩
  have ok := I.ok
  have hfr : X.A.frames = some (X.env :: X.outer) := by rw [ok.frames, hs]
  refine wpAny_Try_except ?_
  refine wpAny_mono ((hb (wOnT X.K cs ts Wout D) (X.pn ++ pins) (fun e s₁ => wpAny (model X.prog X.w) X.A (noteFrame e X.env) (fun _ s₂ => wpAny (model X.prog X.w) X.A (setFlight e none) (fun _ s₃ =>
    wpAny (model X.prog X.w) X.A (handleBy e X.env [.ExceptHandler (some te) none (b₀ :: suite) pos']) (SP X pins D) X.xe s₃) X.xe s₂) X.xe s₁) (fun u s' xx => ?_) PassesOwn.looking).run [] s σ H D (I.toTry _) h) (fun f s1 hsp => ?_) (fun e s1 he => he)
  · obtain ⟨a, B, sI, pins', σ', H', cls, d, rfl, J', nb, up, sky, na, os, ag, b, hb1, hyes, hno⟩ := xx
    have J : Inv X pins σ' H' sI := J'.ofTry ok
    have sky' : Sky B (X.env :: X.outer) a (Zc cls d) X.env.locals s'.heap := by rw [← hs]; exact sky
    show wpAny (model X.prog X.w) X.A (noteFrame (.ref a) X.env) _ _ _
    refine Sky.land Zc.steady hfr hf sky' fun h2 fl2 up2 => ?_
    have J2 : Inv X pins σ' H' { s' with heap := h2 } := J.landed nb fl2.1 (up.trans up2) os ag
    obtain ⟨oe2, vs2, he2, hz2, hd2⟩ := fl2.there
    have notFr : ∀ {h : Heap} {o : Obj} {vs : Array Value}, h.FunFrames B (X.env :: X.outer) → h.get? a = some o → o.data = .fields vs → a ∉ frs (X.env :: X.outer) := fun {h o vs} ff e dd hm => by
      obtain ⟨_, o', e', hnf⟩ := ff.mem hm
      rw [e] at e'; cases e'
      exact hnf _ dd
    have nfr := notFr fl2.2.2.1 he2 hd2
    have nL : a ≠ X.env.locals := fun z => nfr (List.mem_filterMap.mpr ⟨X.env, List.mem_cons_self, by rw [hf, z]⟩)
    have nF : a ∉ X.fs := fun hm => by
      obtain ⟨e, he, q⟩ := List.mem_filterMap.mp hm
      exact nfr (List.mem_filterMap.mpr ⟨e, List.mem_cons_of_mem _ he, q⟩)
    have S2 := J2.suite he2 hd2 na nL nF
    have nb0 : X.base.get? a = none := by
      cases z : X.base.get? a with
      | none => rfl
      | some o =>
        have z1 := nb a o (J.bk a o z) (by rw [hs]; exact nfr)
        rw [fl2.2.1] at z1
        cases z1
    refine wpAny_handleBy_cons (codeAny_handlers_test ?_) (by intro q; cases q)
    refine hc a oe2 _ _ _ _ _ _ S2 ?_
    have kp : ∀ b o, h2.get? b = some o → (h2.push ({ cls := .type "tuple", data := .seq cs.toArray } : Obj)).get? b = some o := fun b o e => Heap.get?_push_of_some _ e
    have gt : (h2.push ({ cls := .type "tuple", data := .seq cs.toArray } : Obj)).get? h2.objs.size = some ({ cls := .type "tuple", data := .seq cs.toArray } : Obj) := Heap.get?_push_size _ rfl
    have fl3 : HandSPX.FlyingZ B (X.env :: X.outer) a (Zc cls d) (h2.push ({ cls := .type "tuple", data := .seq cs.toArray } : Obj)) := flying_keep fl2 kp
    have up3 : s'.heap.UpToSlots (h2.push ({ cls := .type "tuple", data := .seq cs.toArray } : Obj)) := up2.trans (upTo_keep kp)
    show wpAny _ _ (excMatches (.ref a) (.ref h2.objs.size)) _ _ { s' with heap := h2.push ({ cls := .type "tuple", data := .seq cs.toArray } : Obj) }
    generalize h2.push ({ cls := .type "tuple", data := .seq cs.toArray } : Obj) = h3 at kp gt fl3 up3 ⊢
    have J3 : Inv X pins σ' H' { s' with heap := h3 } := J.landed nb fl3.1 (up.trans up3) os ag
    obtain ⟨oe3, vs3, he3, hz3, hd3⟩ := fl3.there
    have LT : PySem.W.Looks (model X.prog X.w) h3 (typeOf (.ref a)) cls := fun A Q E s k q => wpAny_typeOf_ref (k _ _ he3) (by rw [hz3.1]; exact q)
    have LM := hm (model X.prog X.w) X.K h3 h2.objs.size a cls b J3.kIn LT gt hb1
    refine LM.here ?_
    cases b with
    | true =>
      refine codeAny_handlers_suite ?_
      refine HandSPX.lands_againZ fl3 fun h4 fl4 up4 => ?_
      have J4 : Inv X pins σ' H' { s' with heap := h4 } := J.landed nb fl4.1 ((up.trans up3).trans up4) os ag
      obtain ⟨oe4, vs4, he4, hz4, hd4⟩ := fl4.there
      have S4 := J4.suite he4 hd4 na nL nF
      refine wpAny_mono ((hsu a oe4 cls d (X.pn ++ pins) hz4 ⟨_, hd4⟩ nb0).run [] _ _ H' _ S4 (hyes rfl a oe4 na hz4 ⟨_, hd4⟩)) (fun f s6 hsp => ?_) (fun _ _ z => False.elim z)
      cases f with
      | next =>
        obtain ⟨σ6, H6, S6, q6⟩ := hsp
        exact ⟨_, _, S6.unsuite ok, q6⟩
      | brk =>
        obtain ⟨σ6, H6, S6, q6⟩ := hsp
        exact ⟨_, _, S6.unsuite ok, q6⟩
      | cont =>
        obtain ⟨σ6, H6, S6, q6⟩ := hsp
        exact ⟨_, _, S6.unsuite ok, q6⟩
      | ret u =>
        obtain ⟨v6, σ6, H6, S6, r6, q6⟩ := hsp
        exact ⟨_, _, _, S6.unsuite ok, r6, q6⟩
    | false =>
      show wpAny _ X.A (handleBy (.ref a) X.env []) _ _ _
      refine wpAny_handleBy_nil ?_
      obtain ⟨k1, k2, k3, oe, vs, T, oT, ts', he, hz, hd, h1, hr⟩ := id fl3
      unfold PySem.passOn
      refine wpAny_bind (wpAny_field he hd h1 ?_)
      rw [if_neg (show ¬ ((Value.ref T == Value.none) = true) from by simp)]
      have fin : wpAny (model X.prog X.w) X.A (setFlight (.ref a) X.env.frame) (fun _ s4 => wpAny (model X.prog X.w) X.A (throw (.ref a) : Sem Flow) (SP X pins D) X.xe s4) X.xe { s' with heap := h3 } := by
        rw [hf]
        refine HandSPX.setFlight_upZ fl3 fun h4 hh4 up4 => wpAny_throw (tk _ _ ?_)
        exact ⟨a, B, sI, pins, σ', H', cls, d, rfl, J, nb, (up.trans up3).trans up4, .inr (.inr (by rw [hs]; exact hh4)), na, os, ag, hno rfl⟩
      first
        | exact wpAny_bind (wpAny_pure (wpAny_bind fin))
        | exact wpAny_bind fin
  · cases f with
    | next =>
      obtain ⟨σ', H', J', q⟩ := hsp
      exact wpAny_execs_nil ⟨σ', H', J'.ofTry ok, q⟩
    | brk =>
      obtain ⟨σ', H', J', q⟩ := hsp
      exact ⟨σ', H', J'.ofTry ok, q⟩
    | cont =>
      obtain ⟨σ', H', J', q⟩ := hsp
      exact ⟨σ', H', J'.ofTry ok, q⟩
    | ret u =>
      obtain ⟨v, σ', H', J', r, q⟩ := hsp
      exact ⟨v, σ', H', J'.ofTry ok, r, q⟩
end
end LM

end
section
set_option maxHeartbeats 4000000
namespace LM
open PySem PySem.Spec PyProof.Rows L2 DL
/-- the abstract heap with the objects of L / without their places -/
def addL (H : Hp) (L : List (Addr × Obj)) : Hp := fun b => match L.lookup b with
  | some o => some (CelO o)
  | none => H b
def dropL (H : Hp) (L : List (Addr × Obj)) : Hp := fun b => match L.lookup b with
  | some _ => none
  | none => H b
theorem addL_at {H : Hp} {L : List (Addr × Obj)} {b : Addr} {o : Obj} (h : L.lookup b = some o) : addL H L b = some (CelO o) := by unfold addL; rw [h]
theorem addL_ne {H : Hp} {L : List (Addr × Obj)} {b : Addr} (h : L.lookup b = none) : addL H L b = H b := by unfold addL; rw [h]
theorem dropL_at {H : Hp} {L : List (Addr × Obj)} {b : Addr} {o : Obj} (h : L.lookup b = some o) : dropL H L b = none := by unfold dropL; rw [h]
theorem dropL_ne {H : Hp} {L : List (Addr × Obj)} {b : Addr} (h : L.lookup b = none) : dropL H L b = H b := by unfold dropL; rw [h]
section
variable {P : Program} {w : World} {H H2 : Hp} {h h' B : Heap} {L : List (Addr × Obj)} {fs : List Addr}
theorem add_free {b : Addr} (e : addL H L b = none) : L.lookup b = none ∧ H b = none := by
  cases q : L.lookup b with
  | some o =>
    rw [addL_at q] at e
    cases e
  | none =>
    rw [addL_ne q] at e
    exact ⟨rfl, e⟩
theorem hok_add (x : HOk P w H h) (hL : ∀ b o, L.lookup b = some o → h.get? b = some o ∧ H b = none) : HOk P w (addL H L) h := fun b u e => by
  cases q : L.lookup b with
  | some o =>
    rw [addL_at q] at e
    cases e
    obtain ⟨g, _⟩ := hL b o q
    exact ⟨g, o, g⟩
  | none =>
    rw [addL_ne q] at e
    have ke : ∀ c v, H c = some v → addL H L c = some v := fun c v z => by
      cases q2 : L.lookup c with
      | some o =>
        rw [(hL c o q2).2] at z
        cases z
      | none => rw [addL_ne q2]; exact z
    exact (x b u e).stay (fun _ _ _ z => z) (fun c z => ke c _ z) fun c xs z => ke c _ z
theorem hok_drop (x : HOk P w H h) (hL : ∀ b o, L.lookup b = some o → H b = some (CelO o)) : HOk P w (dropL H L) h := fun b u e => by
  cases q : L.lookup b with
  | some o =>
    rw [dropL_at q] at e
    cases e
  | none =>
    rw [dropL_ne q] at e
    refine (x b u e).stay (fun _ _ _ z => z) (fun c z => ?_) fun c xs z => ?_
    · cases q2 : L.lookup c with
      | some o =>
        rw [hL c o q2] at z
        cases z
      | none => rw [dropL_ne q2]; exact z
    · cases q2 : L.lookup c with
      | some o =>
        rw [hL c o q2] at z
        cases z
      | none => rw [dropL_ne q2]; exact z
/-- behind a call for which the objects of L were tracked -/
theorem un_add (U : Un fs [] (addL H L) H2 h h') (hL : ∀ b o, L.lookup b = some o → h.get? b = some o ∧ H b = none ∧ b ∉ fs) (k2 : HOk P w H2 h') :
    Un fs [] H (dropL H2 L) h h' ∧ HOk P w (dropL H2 L) h' ∧ ∀ b o, L.lookup b = some o → H2 b = some (CelO o) := by
  have at2 : ∀ b o, L.lookup b = some o → H2 b = some (CelO o) := fun b o q => U.frzs b o _ (addL_at q)
  have ke : ∀ c v, H c = some v → L.lookup c = none := fun c v z => by
    cases q2 : L.lookup c with
    | some o =>
      rw [(hL c o q2).2.1] at z
      cases z
    | none => rfl
  refine ⟨{
    keep := fun b o e n hf hx => ?_
    slot := fun b o e n hf hx => ?_
    free := fun b o e n hx => ?_
    there := fun b o e hx => U.there b o e hx
    tups := fun b xs e => ?_
    frzs := fun b o u e => ?_
    tbls := fun b ps e => ?_ }, hok_drop k2 at2, at2⟩
  · cases q : L.lookup b with
    | some o' =>
      have z := (k2 b _ (at2 b o' q)).1
      rw [(hL b o' q).1] at e
      cases e
      exact z
    | none => exact U.keep b o e ((addL_ne q).trans n) hf hx
  · have q : L.lookup b = none := by
      cases q : L.lookup b with
      | some o' => exact absurd hf (hL b o' q).2.2
      | none => rfl
    exact U.slot b o e ((addL_ne q).trans n) hf hx
  · cases q : L.lookup b with
    | some o' => exact dropL_at q
    | none => exact (dropL_ne q).trans (U.free b o e ((addL_ne q).trans n) hx)
  · have q := ke b _ e
    exact (dropL_ne q).trans (U.tups b xs ((addL_ne q).trans e))
  · have q := ke b _ e
    exact (dropL_ne q).trans (U.frzs b o u ((addL_ne q).trans e))
  · have q := ke b _ e
    obtain ⟨more, z⟩ := U.tbls b ps ((addL_ne q).trans e)
    exact ⟨more, (dropL_ne q).trans z⟩
/-- behind a call for which the objects of L were not tracked -/
theorem un_drop (U : Un fs [] (dropL H L) H2 h h') (x : HOk P w H h) (hL : ∀ b o, L.lookup b = some o → H b = some (CelO o)) (hf0 : ∀ b ∈ fs, H b = none) (k2 : HOk P w H2 h') :
    Un fs [] H (addL H2 L) h h' ∧ HOk P w (addL H2 L) h' ∧ ∀ b o, L.lookup b = some o → H2 b = none := by
  have nl : ∀ b, H b = none → L.lookup b = none := fun b n => by
    cases q : L.lookup b with
    | some o =>
      rw [hL b o q] at n
      cases n
    | none => rfl
  have gt : ∀ b o, L.lookup b = some o → h'.get? b = some o ∧ H2 b = none := fun b o q => by
    have g : h.get? b = some o := (x b _ (hL b o q)).1
    have nf : b ∉ fs := fun z => by
      have := hf0 b z
      rw [hL b o q] at this
      cases this
    exact ⟨U.keep b o g (dropL_at q) nf (by simp), U.free b o g (dropL_at q) (by simp)⟩
  refine ⟨{
    keep := fun b o e n hf hx => U.keep b o e ((dropL_ne (nl b n)).trans n) hf hx
    slot := fun b o e n hf hx => U.slot b o e ((dropL_ne (nl b n)).trans n) hf hx
    free := fun b o e n hx => (addL_ne (nl b n)).trans (U.free b o e ((dropL_ne (nl b n)).trans n) hx)
    there := fun b o e hx => U.there b o e hx
    tups := fun b xs e => ?_
    frzs := fun b o u e => ?_
    tbls := fun b ps e => ?_ }, hok_add k2 gt, fun b o z => (gt b o z).2⟩
  · cases q : L.lookup b with
    | some o =>
      rw [hL b o q] at e
      cases e
    | none => exact (addL_ne q).trans (U.tups b xs ((dropL_ne q).trans e))
  · cases q : L.lookup b with
    | some o' =>
      rw [hL b o' q] at e
      cases e
      exact addL_at q
    | none => exact (addL_ne q).trans (U.frzs b o u ((dropL_ne q).trans e))
  · cases q : L.lookup b with
    | some o =>
      rw [hL b o q] at e
      cases e
    | none =>
      obtain ⟨more, z⟩ := U.tbls b ps ((dropL_ne q).trans e)
      exact ⟨more, (addL_ne q).trans z⟩
/-- .. that an exception left -/
theorem cx_drop {outer : List Env} {s : Shared} {E : XK} {u : Value} {s' : Shared} (c : L2.CX P w outer (dropL H L) s (fun cls d H1 => (∀ b o, L.lookup b = some o → H1 b = none) → E cls d (addL H1 L)) u s') (x : HOk P w H s.heap) (hL : ∀ b o, L.lookup b = some o → H b = some (CelO o)) (hf0 : ∀ b ∈ frs outer, H b = none) :
    L2.CX P w outer H s E u s' := by
  obtain ⟨a, B, H2, cls, d, e, fl, k2, U, na, os, bare, q⟩ := c
  have nl : ∀ b, H b = none → L.lookup b = none := fun b n => by
    cases q : L.lookup b with
    | some o =>
      rw [hL b o q] at n
      cases n
    | none => rfl
  have gt : ∀ b o, L.lookup b = some o → B.get? b = some o ∧ H2 b = none := fun b o q => by
    have g : s.heap.get? b = some o := (x b _ (hL b o q)).1
    have nf : b ∉ frs outer := fun z => by
      have := hf0 b z
      rw [hL b o q] at this
      cases this
    exact ⟨U.keep b o g (dropL_at q) nf, U.free b o g (dropL_at q)⟩
  have nla : L.lookup a = none := by
    cases q : L.lookup a with
    | some o =>
      have z := (gt a o q).1
      rw [fl.2.1] at z
      cases z
    | none => rfl
  refine ⟨a, B, addL H2 L, cls, d, e, fl, hok_add k2 gt, {
    keep := fun b o e n hf => U.keep b o e ((dropL_ne (nl b n)).trans n) hf
    slot := fun b o e hf => U.slot b o e hf
    free := fun b o e n => (addL_ne (nl b n)).trans (U.free b o e ((dropL_ne (nl b n)).trans n))
    there := fun b o e hf => U.there b o e hf
    tups := fun b xs e => ?_
    frzs := fun b o u e => ?_
    tbls := fun b ps e => ?_ }, (addL_ne nla).trans na, os, bare, q fun b o z => (gt b o z).2⟩
  · cases q : L.lookup b with
    | some o =>
      rw [hL b o q] at e
      cases e
    | none => exact (addL_ne q).trans (U.tups b xs ((dropL_ne q).trans e))
  · cases q : L.lookup b with
    | some o' =>
      rw [hL b o' q] at e
      cases e
      exact addL_at q
    | none => exact (addL_ne q).trans (U.frzs b o u ((dropL_ne q).trans e))
  · cases q : L.lookup b with
    | some o =>
      rw [hL b o q] at e
      cases e
    | none =>
      obtain ⟨more, z⟩ := U.tbls b ps ((dropL_ne q).trans e)
      exact ⟨more, (addL_ne q).trans z⟩
theorem env_add {K : PySem.W.Frag} {mg : Str → Option Value} {base : Heap} {A : Around} {outer : List Env} {s : Shared} (e : Env0 P w K mg base A outer s H) (hL : ∀ b o, L.lookup b = some o → s.heap.get? b = some o ∧ H b = none ∧ b ∉ frs outer ∧ base.get? b = none) : Env0 P w K mg base A outer s (addL H L) :=
  ⟨e.frames, e.mod, fun b o z => ⟨(e.bs b o z).1, by
      cases q : L.lookup b with
      | some o' =>
        rw [(hL b o' q).2.2.2] at z
        cases z
      | none => rw [addL_ne q]; exact (e.bs b o z).2⟩, e.bsz, e.funs, fun b hb => by
      cases q : L.lookup b with
      | some o' => exact absurd hb (hL b o' q).2.2.1
      | none => rw [addL_ne q]; exact e.frf b hb, hok_add e.hok fun b o q => ⟨(hL b o q).1, (hL b o q).2.1⟩, e.bare⟩
theorem env_drop {K : PySem.W.Frag} {mg : Str → Option Value} {base : Heap} {A : Around} {outer : List Env} {s : Shared} (e : Env0 P w K mg base A outer s H) (hL : ∀ b o, L.lookup b = some o → H b = some (CelO o)) : Env0 P w K mg base A outer s (dropL H L) := by
  have kn : ∀ b, H b = none → dropL H L b = none := fun b n => by
    cases q : L.lookup b with
    | some o => exact dropL_at q
    | none => exact (dropL_ne q).trans n
  exact ⟨e.frames, e.mod, fun b o z => ⟨(e.bs b o z).1, kn b (e.bs b o z).2⟩, e.bsz, e.funs, fun b hb => kn b (e.frf b hb), hok_drop e.hok hL, e.bare⟩
end

/-- what its names must be -/
structure LamSc (F : LamC) (pn : List Str) : Prop where
  kind : F.scope.kind = .function
  co : F.scope.isCoroutine = false
  gen : F.scope.isGenerator = false
  nocell : ∀ y ∈ F.scope.names, y.2 ≠ .cell
  free : ∀ y ∈ F.scope.names, y.2 = .free → y.1 ∈ F.caps
  caps : ∀ x ∈ F.caps, F.scope.names.lookup x = some .free
  locs : ∀ x ∈ pn, F.scope.names.lookup x = some .local
  nd : F.caps.Nodup
def lamScB (F : LamC) (pn : List Str) : Bool :=
  decide (F.scope.kind = .function) && (!F.scope.isCoroutine && (!F.scope.isGenerator && (F.scope.names.all (fun y => !decide (y.2 = .cell) && (!decide (y.2 = .free) || F.caps.contains y.1)) && (F.caps.all (fun x => decide (F.scope.names.lookup x = some .free)) && (pn.all (fun x => decide (F.scope.names.lookup x = some .local)) && decide F.caps.Nodup)))))
theorem lamSc_by {F : LamC} {pn : List Str} (h : lamScB F pn = true) : LamSc F pn := by
  unfold lamScB at h
  simp only [Bool.and_eq_true, Bool.or_eq_true, Bool.not_eq_true', decide_eq_true_eq, decide_eq_false_iff_not, List.all_eq_true, List.contains_iff_mem] at h
  obtain ⟨h1, h2, h3, h4, h5, h6, h7⟩ := h
  exact ⟨h1, h2, h3, fun y hy => (h4 y hy).1, fun y hy e => (h4 y hy).2.resolve_left fun z => z e, h5, h6, h7⟩
abbrev envL (F : LamC) (L f c : Addr) (cl : List (Str × Addr)) : Env := PySem.W.envX F.qual F.scope L f (.ref c) cl
/-- the context of the lambda's body, entered at s from the frames outer -/
def cxL (P : Program) (w : World) (K : PySem.W.Frag) (mg : Str → Option Value) (base : Heap) (A : Around) (outer : List Env) (s : Shared) (H : Hp) (E : XK) (F : LamC) (f c : Addr) (cl : List (Str × Addr)) : Cx where
  prog := P
  w := w
  K := K
  mg := mg
  base := base
  A := A.deeper (envL F s.heap.objs.size f c cl)
  N := F.caps
  s_0 := s
  H_0 := H
  env := envL F s.heap.objs.size f c cl
  outer := outer
  stack := envL F s.heap.objs.size f c cl :: outer
  ex := []
  fn := fun _ => false
  calm := true
  pn := []
  xe := fun e s' => wpAny (model P w) (A.deeper (envL F s.heap.objs.size f c cl)) (leaving (envL F s.heap.objs.size f c cl) e) (fun _ s'' => L2.CX P w outer H s E e s'') (fun e' s'' => L2.CX P w outer H s E e' s'') s'
/-- the cells of the captured names hold these -/
structure CelsV (h : Heap) (H : Hp) (cl : List (Str × Addr)) (caps : List Str) (us : List V) : Prop where
  len : us.length = caps.length
  val : ∀ (j : Nat) (x : Str) (v : V), caps[j]? = some x → us[j]? = some v → ∃ c u, cl.lookup x = some c ∧ h.IsCell c (some u) ∧ RelV v u
  key : ∀ x c, cl.lookup x = some c → x ∈ caps ∧ H c = none ∧ ∃ v, h.IsCell c v
  inj : ∀ x y c, cl.lookup x = some c → cl.lookup y = some c → x = y
section
variable {P : Program} {w : World} {K : PySem.W.Frag} {mg : Str → Option Value} {base : Heap}
theorem lam_start {A : Around} {outer : List Env} {s : Shared} {H : Hp} {E : XK} {F : LamC} {f c : Addr} {cl : List (Str × Addr)} {us : List V} {pn : List Str} {m : Str → Option Value} {h₁ : Heap} {tk : Nat} (S : LamSc F pn) (e0 : Env0 P w K mg base A outer s H) (hd : A.handled = none)
    (C : CelsV s.heap H cl F.caps us) (hns : h₁.Ns s.heap.objs.size m) (kp : ∀ b o, s.heap.get? b = some o → h₁.get? b = some o) :
    Inv (cxL P w K mg base A outer s H E F f c cl) [] (us.map some) H { s with heap := h₁, toks := tk } := by
  have cellK : ∀ {c : Addr} {v : Option Value}, s.heap.IsCell c v → h₁.IsCell c v := fun {c v} ⟨o, ho, hd⟩ => ⟨o, kp _ _ ho, hd⟩
  have noA : ∀ b : Addr, b ∉ (cxL P w K mg base A outer s H E F f c cl).ex := fun b z => absurd (show b ∈ ([] : List Addr) from z) (by simp)
  have vat : ∀ {x : Str}, x ∈ F.caps → ∃ (j : Nat) (v : V), F.caps[j]? = some x ∧ us[j]? = some v := fun {x} hx => by
    obtain ⟨j, hj, e⟩ := List.mem_iff_getElem.mp hx
    have hj' : j < us.length := by rw [C.len]; exact hj
    exact ⟨j, us[j], by rw [List.getElem?_eq_getElem hj, e], by rw [List.getElem?_eq_getElem hj']⟩
  refine ⟨⟨e0.mod, S.kind, rfl, rfl, Nat.le_refl _, C.inj, fun y hy => ?_, fun y c z _ => ?_, fun _ => hd, Around.frames_deeper e0.frames, .inr ⟨rfl, rfl⟩, fun b z => absurd z (noA b), e0.bs, e0.bsz, fun b _ _ => noA b,
      fun b z => absurd z (noA b), e0.funs, e0.frf⟩,
    rfl, e0.bare, Un.kept kp, ⟨_, hns, fun i y v e1 e2 e3 => ?_⟩, fun y c e => ?_, e0.hok.fresh (Nat.le_refl _), fun y c e => (C.key y c e).2.1, fun q hq => absurd (show q ∈ ([] : List (Addr × Obj)) ++ [] from hq) (by simp), e0.hok.kept kp, ?_⟩
  · have hy : F.scope.names.lookup y = some .cell ∨ F.scope.names.lookup y = some .free := hy
    rcases hy with hy | hy
    · exact absurd rfl (S.nocell _ (PySem.mem_of_lookup hy))
    · obtain ⟨j, v, h1, h2⟩ := vat (S.free _ (PySem.mem_of_lookup hy) rfl)
      obtain ⟨c, u, h3, _⟩ := C.val j y v h1 h2
      exact ⟨c, h3⟩
  · have z : false = true := z
    cases z
  · have e1' : F.caps[i]? = some y := e1
    have e2' : us[i]? = some v := by
      rw [List.getElem?_map] at e2
      cases z : us[i]? with
      | none =>
        rw [z] at e2
        cases e2
      | some v' =>
        rw [z] at e2
        cases e2
        rfl
    obtain ⟨c, u, h1, h2, h3⟩ := C.val i y v e1' e2'
    exact ⟨u, h3, .inr ⟨.inr (S.caps y (List.mem_of_getElem? e1')), c, h1, cellK h2⟩⟩
  · obtain ⟨_, _, v, h⟩ := C.key y c e
    exact ⟨v, cellK h⟩
  · show (us.map some).length = F.caps.length
    rw [List.length_map, C.len]
/-- what its call without arguments binds -/
def BindL (F : LamC) (pn : List Str) : Prop := ∀ (s : Shared) (cl : List (Str × Addr)) (dv doc pm cdv ct : Value) (us : List Value), ((us = [] ∧ dv = .none) ∨ ∃ t o n, dv = .ref t ∧ s.heap.get? t = some o ∧ o.data = .seq us.toArray n) → us.length = F.dfl.length →
  (F.dfl = [] → dv = .none) → BindsTo s (PySem.W.kdv_fn "<lambda>" F.qual F.params (.expr F.body) F.scope cl dv doc pm cdv ct) ⟨[], []⟩ (pn.zip us)
theorem bindL0 {F : LamC} (hd : F.dfl = []) (h : ∀ (cl : List (Str × Addr)) (doc pm cdv ct : Value), bindArgs (PySem.W.kdv_fn "<lambda>" F.qual F.params (.expr F.body) F.scope cl .none doc pm cdv ct) ⟨[], []⟩ = pure []) : BindL F [] := fun s cl dv doc pm cdv ct us hu hl h0 => by
  have e := h0 hd
  subst e
  exact BindsTo.of_eq (h _ _ _ _ _)
theorem bindL1 {F : LamC} {x : Str} {v : V} (hd : F.dfl = [v]) (h : ∀ (cl : List (Str × Addr)) (t : Addr) (doc pm cdv ct : Value), ∃ k, bindArgs (PySem.W.kdv_fn "<lambda>" F.qual F.params (.expr F.body) F.scope cl (.ref t) doc pm cdv ct) ⟨[], []⟩ = seqItems? (.ref t) >>= k ∧ ∀ u : Value, k (some [u].toArray) = pure [(x, u)]) : BindL F [x] := fun s cl dv doc pm cdv ct us hu hl h0 => by
  rw [hd] at hl
  match us, hl with
  | [u], _ =>
    rcases hu with ⟨e, _⟩ | ⟨t, o, n, e, ho, hdt⟩
    · cases e
    · subst e
      intro M A E Q q
      obtain ⟨k, h1, h2⟩ := h cl t doc pm cdv ct
      rw [h1]
      refine wpAny_bind (wpAny_seqItems ho hdt ?_)
      rw [h2]
      exact wpAny_pure q
/-- a call of the lambda at f, told of the very state -/
theorem lam_run {A : Around} {outer : List Env} {s : Shared} {H : Hp} {Q : VK} {E : XK} {F : LamC} {f c : Addr} {dv : Value} {cl : List (Str × Addr)} {us : List V} {pn : List Str} {k : Nat} {tb : TE} (S : LamSc F pn) (hb : BindL F pn) (hpn : pn.length = F.dfl.length) (hr : Room (k + 1) A) (e0 : Env0 P w K mg base A outer s H)
    (hf : H f = some (LamO f F cl dv c)) (hc : H c = some (LamX.CodeO c F.qual)) (hdf : DflOk H (fun _ => False) F.dfl dv) (C : CelsV s.heap H cl F.caps us)
    (hbody : Room k (A.deeper (envL F s.heap.objs.size f c cl)) → PE (cxL P w K mg base A outer s H E F f c cl) F.body tb) (h : tb (us.map some) H Q) :
    codeAny (model P w) A (.call (.ref f) ⟨[], []⟩) (CR (L2.CX P w) outer P w H s Q E) s := by
  obtain ⟨⟨od, sl, doc, pm, ctv, of1⟩, _, _⟩ := e0.hok f _ hf
  obtain ⟨⟨oc, vs, t, hoc, hdc, hvc⟩, _, _⟩ := e0.hok c _ hc
  have lim : s.heap.NoLimit := e0.mod.nolimit.keeps fun b o e => (e0.bs b o e).1
  refine PySem.W.kla_callFunE hr.depth of1 rfl S.co S.gen rfl ⟨c, oc, vs, t, rfl, hoc, hdc, hvc⟩ ?_
  have hu : ∃ us : List Value, ((us = [] ∧ dv = .none) ∨ ∃ t o n, dv = .ref t ∧ s.heap.get? t = some o ∧ o.data = .seq us.toArray n) ∧ us.length = F.dfl.length := by
    rcases hdf with ⟨e, e2⟩ | ⟨ne, t, e, ht, _⟩
    · exact ⟨[], .inl ⟨rfl, e2⟩, by rw [e]; rfl⟩
    · obtain ⟨_, its, hv, ⟨o, ho, _, n, hd⟩⟩ := e0.hok t _ ht
      exact ⟨its, .inr ⟨t, o, n, e, ho, hd⟩, hv.length.symm⟩
  obtain ⟨ws, hw, hl⟩ := hu
  have h0 : F.dfl = [] → dv = .none := fun e => by
    rcases hdf with ⟨_, e2⟩ | ⟨ne, _⟩
    · exact e2
    · exact absurd e ne
  refine hb s cl dv doc pm (.ref c) ctv ws hw hl h0 _ _ _ _ ?_
  refine wpAny_newFunctionEnv (fun y hy => S.nocell y hy) (fun y hy => ?_) (fun h₁ hns hsb => ?_) S.kind
  · obtain ⟨x, u⟩ := y
    exact S.locs x (List.of_mem_zip hy).1
  · refine ⟨lim.fresh _ hsb, ?_⟩
    show codeAny _ _ (.expr F.body (envL F s.heap.objs.size f c cl)) _ _
    have kp : ∀ b o, s.heap.get? b = some o → h₁.get? b = some o := fun b o e => hsb.extBut b o (Nat.ne_of_lt (Heap.lt_size e)) (Heap.get?_push_of_some _ e)
    have J : Inv (cxL P w K mg base A outer s H E F f c cl) [] (us.map some) H { s with heap := h₁, toks := s.toks + (pn.zip ws).length } := lam_start S e0 hr.hd C hns kp
    refine PySem.W.kla_codeExpr (wpAny_mono ((hbody (hr.deeper _)).run [] _ _ H Q J h) (fun v s' hq => ?_) fun e s' hq => hq)
    obtain ⟨w', H', J', rv, q⟩ := hq
    exact ⟨w', H', J'.os, J'.bare, J'.base, J'.hok, rv, q⟩
end
end LM

end
section
set_option maxHeartbeats 4000000
namespace LM
open PySem PySem.Spec PyProof.Rows L2 DL
section
variable {K : PySem.W.Frag} {hid : Addr → Prop} {M : Mem} {ad : List Addr} {H : Hp} {L : List (Addr × Obj)}
theorem fr_add (k : Ok K hid M ad H) (hL : ∀ b o, L.lookup b = some o → H b = none) : Fr hid M ad H M ad (addL H L) ∧ Ok K hid M ad (addL H L) := by
  have ke : ∀ a o, H a = some o → addL H L a = some o := fun a o e => by
    cases q : L.lookup a with
    | some o' =>
      rw [hL a o' q] at e
      cases e
    | none => rw [addL_ne q]; exact e
  have kh : ∀ a, H a ≠ none → addL H L a = H a := fun a n => by
    cases e : H a with
    | none => exact absurd e n
    | some o => exact ke a o e
  have l : Le (wd hid M ad H) (wd hid M ad (addL H L)) := ⟨⟨[], by simp⟩, fun a o e n => ⟨ke a o e, n⟩⟩
  refine ⟨⟨l, fun a z => kh a (k.hh a z), fun a z => by rw [kh a z]; exact z⟩, ⟨k.len, k.inj, k.nh, fun i o a e1 e2 => ?_, fun a z => by rw [kh a (k.hh a z)]; exact k.hh a z⟩⟩
  by_cases hd : o = .dead
  · subst hd
    trivial
  · obtain ⟨u, z⟩ := k.some ⟨o, e1, hd⟩ e2
    exact MOk.le l ((ke a u z).trans z.symm) (k.ob i o a e1 e2)
structure Dr (W W' : Wd) : Prop where
  ad : W'.ad = W.ad
  bad : W'.bad = W.bad
  keep : ∀ a o, W.H a = some o → (∀ ob, o ≠ CelO ob) → W'.H a = some o
theorem dr_of (hL : ∀ b o, L.lookup b = some o → ∃ ob, H b = some (CelO ob)) : Dr (wd hid M ad H) (wd hid M ad (dropL H L)) :=
  ⟨rfl, rfl, fun a o e n => by
    show dropL H L a = some o
    cases q : L.lookup a with
    | some o' =>
      obtain ⟨ob, z⟩ := hL a o' q
      have e' : H a = some o := e
      rw [z] at e'
      exact absurd (Option.some.inj e').symm (n ob)
    | none => rw [dropL_ne q]; exact e⟩
variable {W W' : Wd}
theorem Dr.rdL (l : Dr W W') {a : Addr} {xs : List V} (h : Rd W.H a (.lst xs)) : Rd W'.H a (.lst xs) :=
  h.imp (fun z => l.keep _ _ z fun ob e => by cases e) fun ⟨o, z⟩ => ⟨o, l.keep _ _ z fun ob e => by cases e⟩
theorem Dr.rdT (l : Dr W W') {a : Addr} {xs : List V} (h : Rd W.H a (.tup xs)) : Rd W'.H a (.tup xs) :=
  h.imp (fun z => l.keep _ _ z fun ob e => by cases e) fun ⟨o, z⟩ => ⟨o, l.keep _ _ z fun ob e => by cases e⟩
theorem Dr.nb (l : Dr W W') {a : Addr} (h : ¬ W.bad a) : ¬ W'.bad a := by rw [l.bad]; exact h
theorem Dr.dfl (l : Dr W W') {dfl : List V} {dv : Value} (h : DflOk W.H W.bad dfl dv) : DflOk W'.H W'.bad dfl dv := h.imp id fun ⟨ne, t, et, q, nq⟩ => ⟨ne, t, et, l.keep _ _ q fun ob e => (by cases e), l.nb nq⟩
mutual
theorem Rp.dr (l : Dr W W') : ∀ (d : D) {v : V}, Rp K W d v → Rp K W' d v
  | .non, _, h => by simpa [Rp] using h
  | .bl _, _, h => by simpa [Rp] using h
  | .int _, _, h => by simpa [Rp] using h
  | .str _, _, h => by simpa [Rp] using h
  | .ty _, _, h => by simpa [Rp] using h
  | .cls _, _, h => by simpa [Rp] using h
  | .obj i, _, h => by
    simp only [Rp] at h ⊢
    obtain ⟨a, e1, e2⟩ := h
    exact ⟨a, e1, by rw [l.ad]; exact e2⟩
  | .scr ns, _, h => by
    simp only [Rp] at h ⊢
    obtain ⟨a, e, h⟩ := h
    exact ⟨a, e, h.imp (fun z => ⟨l.rdL z.1, l.nb z.2⟩) id⟩
  | .lst ds, _, h => by
    simp only [Rp] at h ⊢
    obtain ⟨a, vs, e, h1, h2⟩ := h
    exact ⟨a, vs, e, ⟨l.keep _ _ h1.1 fun ob e => (by cases e), l.nb h1.2⟩, RpL.dr l ds h2⟩
  | .tup ds, _, h => by
    simp only [Rp] at h ⊢
    obtain ⟨a, vs, e, h1, h2⟩ := h
    exact ⟨a, vs, e, h1.imp (fun z => ⟨l.rdT z.1, l.nb z.2⟩) id, RpL.dr l ds h2⟩
  | .dct ks ds, _, h => by
    simp only [Rp] at h ⊢
    obtain ⟨a, es, e, h1, n1, h2, h3⟩ := h
    exact ⟨a, es, e, l.keep _ _ h1 fun ob e => (by cases e), l.nb n1, h2, RpL.dr l ds h3⟩
  | .ins c ns ds, _, h => by
    simp only [Rp] at h ⊢
    obtain ⟨a, dx, es, e, h1, n1, h2, h3⟩ := h
    exact ⟨a, dx, es, e, l.keep _ _ h1 fun ob e => (by cases e), l.nb n1, h2, RpL.dr l ds h3⟩
  | .lam F cl, _, h => by
    simp only [Rp] at h ⊢
    obtain ⟨f, c, dv, e, h1, n1, h2, n2, h3⟩ := h
    exact ⟨f, c, dv, e, l.keep _ _ h1 fun ob e => (by unfold LamO at e; cases e), l.nb n1, l.keep _ _ h2 fun ob e => (by unfold LamX.CodeO at e; cases e), l.nb n2, l.dfl h3⟩
  | .exn c ns ds, _, h => by
    simp only [Rp] at h ⊢
    obtain ⟨a, d, es, e, h1, n1, h2, n2, h3, h4⟩ := h
    exact ⟨a, d, es, e, l.keep _ _ h1 fun ob e => (by unfold ExnO at e; cases e), l.nb n1, l.keep _ _ h2 fun ob e => (by cases e), l.nb n2, h3, RpL.dr l ds h4⟩
theorem RpL.dr (l : Dr W W') : ∀ (ds : List D) {vs : List V}, RpL K W ds vs → RpL K W' ds vs
  | [], _, h => by simpa [RpL] using h
  | d :: ds, _, h => by
    simp only [RpL] at h ⊢
    obtain ⟨v, r, e, h1, h2⟩ := h
    exact ⟨v, r, e, Rp.dr l d h1, RpL.dr l ds h2⟩
end
theorem MOk.dr (l : Dr W W') {a : Addr} {o : MO} (h : MOk K W a o) : MOk K W' a o := by
  cases o with
  | dead => trivial
  | lst ds =>
    obtain ⟨vs, h1, h2⟩ := h
    exact ⟨vs, l.keep _ _ h1 fun ob e => (by cases e), RpL.dr l ds h2⟩
  | dct ks ds =>
    obtain ⟨es, h1, h2, h3⟩ := h
    exact ⟨es, l.keep _ _ h1 fun ob e => (by cases e), h2, RpL.dr l ds h3⟩
  | ins c ns ds =>
    obtain ⟨dx, es, h1, h2, h3⟩ := h
    exact ⟨dx, es, l.keep _ _ h1 fun ob e => (by cases e), h2, RpL.dr l ds h3⟩
  | tbl P q =>
    obtain ⟨e0, ps, h1, h2, h3⟩ := h
    exact ⟨e0, ps, l.keep _ _ h1 fun ob e => (by cases e), h2, fun pos cv hc => let ⟨c, e1, e2, e3⟩ := h3 pos cv hc; ⟨c, e1, l.keep _ _ e2 fun ob e => (by unfold LamX.CodeO at e; cases e), l.nb e3⟩⟩
theorem ok_drop (k : Ok K hid M ad H) (hL : ∀ b o, L.lookup b = some o → ∃ ob, H b = some (CelO ob)) (hh : ∀ a, hid a → L.lookup a = none) : Ok K hid M ad (dropL H L) :=
  ⟨k.len, k.inj, k.nh, fun i o a e1 e2 => MOk.dr (dr_of hL) (k.ob i o a e1 e2), fun a z => by rw [dropL_ne (hh a z)]; exact k.hh a z⟩
/-- a way from H with L tracked to a state with L tracked, both without L -/
theorem fr_drop {M' : Mem} {ad' : List Addr} {H' : Hp} (f : Fr hid M ad (addL H L) M' ad' H') (hL : ∀ b o, L.lookup b = some o → H b = none) (hL' : ∀ b o, L.lookup b = some o → ∃ ob, H' b = some (CelO ob)) (hh : ∀ a, hid a → H a ≠ none) : Fr hid M ad H M' ad' (dropL H' L) := by
  have nl : ∀ a, H a ≠ none → L.lookup a = none := fun a n => by
    cases q : L.lookup a with
    | some o => exact absurd (hL a o q) n
    | none => rfl
  refine ⟨⟨f.le.pre, fun a o e n => ?_⟩, fun a z => ?_, fun a z => ?_⟩
  · have q := nl a (by rw [show H a = some o from e]; simp)
    obtain ⟨g1, g2⟩ := f.le.keep a o (show addL H L a = some o by rw [addL_ne q]; exact e) n
    exact ⟨show dropL H' L a = some o by rw [dropL_ne q]; exact g1, g2⟩
  · have q := nl a (hh a z)
    rw [dropL_ne q, f.hidk a z, addL_ne q]
  · have q := nl a z
    rw [dropL_ne q]
    exact f.dom a (by rw [addL_ne q]; exact z)
/-- a way between states without L, both with L -/
theorem fr_keep {M' : Mem} {ad' : List Addr} {H' : Hp} (f : Fr hid M ad (dropL H L) M' ad' H') (hL : ∀ b o, L.lookup b = some o → H b = some (CelO o)) (hh : ∀ a, hid a → L.lookup a = none) (k' : Ok K hid M' ad' H') (n' : ∀ b o, L.lookup b = some o → H' b = none) (nb : ∀ b o, L.lookup b = some o → ¬ badOf hid M ad b) : Fr hid M ad H M' ad' (addL H' L) := by
  refine ⟨⟨f.le.pre, fun a o e n => ?_⟩, fun a z => ?_, fun a z => ?_⟩
  · show addL H' L a = some o ∧ ¬ badOf hid M' ad' a
    cases q : L.lookup a with
    | some o' =>
      have e' : H a = some o := e
      rw [hL a o' q] at e'
      cases e'
      refine ⟨addL_at q, ?_⟩
      exact k'.fresh (n' a o' q)
    | none =>
      obtain ⟨g1, g2⟩ := f.le.keep a o (show dropL H L a = some o by rw [dropL_ne q]; exact e) n
      exact ⟨by rw [addL_ne q]; exact g1, g2⟩
  · rw [addL_ne (hh a z), f.hidk a z, dropL_ne (hh a z)]
  · cases q : L.lookup a with
    | some o =>
      rw [addL_at q]
      simp
    | none =>
      rw [addL_ne q]
      exact f.dom a (by rw [dropL_ne q]; exact z)
end
end LM

end
section
set_option maxHeartbeats 4000000
namespace LM
open PySem PySem.Spec PyProof.Rows L2 DL
/-- the cells' objects, tracked -/
structure CelsL (H : Hp) (L : List (Addr × Obj)) (cl : List (Str × Addr)) (caps : List Str) (us : List V) : Prop where
  len : us.length = caps.length
  val : ∀ (j : Nat) (x : Str) (v : V), caps[j]? = some x → us[j]? = some v → ∃ c oc u, cl.lookup x = some c ∧ L.lookup c = some oc ∧ oc.data = .cell (some u) ∧ RelV v u
  key : ∀ x c, cl.lookup x = some c → x ∈ caps ∧ ∃ oc u, L.lookup c = some oc ∧ oc.data = .cell u
  inj : ∀ x y c, cl.lookup x = some c → cl.lookup y = some c → x = y
  tr : ∀ b o, L.lookup b = some o → H b = some (CelO o)
abbrev NoL (L : List (Addr × Obj)) (H : Hp) : Prop := ∀ b o, L.lookup b = some o → H b = none
/-- a lambda keeps this promise, of what it captured -/
def LamOk (P : Program) (w : World) (K : PySem.W.Frag) (mg : Str → Option Value) (base : Heap) (k : Nat) (F : LamC) (sp : Sp) : Prop :=
  ∀ (A : Around) (outer : List Env) (s : Shared) (H : Hp) (f c : Addr) (dv : Value) (cl : List (Str × Addr)) (us : List V) (Q : VK) (E : XK), Room k A → Env0 P w K mg base A outer s H → H f = some (LamO f F cl dv c) → H c = some (LamX.CodeO c F.qual) →
    DflOk H (fun _ => False) F.dfl dv → CelsV s.heap H cl F.caps us → sp us H Q E → codeAny (model P w) A (.call (.ref f) ⟨[], []⟩) (CR (L2.CX P w) outer P w H s Q E) s
theorem lam_of {P : Program} {w : World} {K : PySem.W.Frag} {mg : Str → Option Value} {base : Heap} {k : Nat} {F : LamC} {pn : List Str} {sp : Sp} (S : LamSc F pn) (hb : BindL F pn) (hpn : pn.length = F.dfl.length)
    (hbody : ∀ (A : Around) (outer : List Env) (s : Shared) (H : Hp) (us : List V) (Q : VK) (E : XK) (f c : Addr) (cl : List (Str × Addr)), Room k (A.deeper (envL F s.heap.objs.size f c cl)) → sp us H Q E → ∃ tb, PE (cxL P w K mg base A outer s H E F f c cl) F.body tb ∧ tb (us.map some) H Q) :
    LamOk P w K mg base (k + 1) F sp := fun A outer s H f c dv cl us Q E hr e0 hf hc hd C h => by
  obtain ⟨tb, h1, h2⟩ := hbody A outer s H us Q E f c cl (hr.deeper _) h
  exact lam_run S hb hpn hr e0 hf hc hd C (fun _ => h1) h2
def tAct (TB : LamC → Option Sp) (E : L2.St → XK) (te : TE) : TE := fun σ H Q => te σ H fun v H1 => ∃ (f : Addr) (F : LamC) (cl : List (Str × Addr)) (dv : Value) (c : Addr) (us : List V) (L : List (Addr × Obj)) (sp : Sp), v = .ref f ∧ H1 f = some (LamO f F cl dv c) ∧ H1 c = some (LamX.CodeO c F.qual) ∧
  DflOk H1 (fun _ => False) F.dfl dv ∧ CelsL H1 L cl F.caps us ∧ TB F = some sp ∧ sp us (dropL H1 L) (fun v H2 => NoL L H2 → Q v (addL H2 L)) (fun cls d H2 => NoL L H2 → E σ cls d (addL H2 L))
theorem pe_act {X : Cx} {TB : LamC → Option Sp} {E : L2.St → XK} {k i : Nat} {a : Str} {p1 p2 : Pos} (hT : ∀ F sp, TB F = some sp → LamOk X.prog X.w X.K X.mg X.base k F sp) (hr : Room k X.A) (hx : ∀ σ, PassesAt (L2.CX X.prog X.w) X σ (E σ))
    (hN : X.N[i]? = some a) (hv : Vis X.env.scope a) (hd : (a == ("__debug__" : Str)) = false := by decide) (hcd : (a == ("__classdict__" : Str)) = false := by decide) : PE X (.Call (.Name a p1) [] [] p2) (tAct TB E (tVar i)) := by
  refine ⟨fun pins s σ H Q I h => ?_⟩
  refine wpAny_Call_Name_kw (thn ((pe_var (pos := p1) (i := i) hN hv hd hcd).run pins s σ H _ I h) fun u s1 ⟨v, H1, I1, r1, f, F, cl, dv, c, us, L, sp, ev, hf, hc, hdf, C, hs, q⟩ => ?_)
  subst ev
  obtain rfl : u = Value.ref f := r1
  obtain ⟨⟨od, sl, doc, pm, ctv, of1⟩, _, _⟩ := I1.hok f _ hf
  refine PySem.W.callWith_F0 ⟨_, _, _, _, of1⟩ ?_
  have lo : ∀ b, (∀ ob, H1 b ≠ some (CelO ob)) → L.lookup b = none := fun b n => by
    cases z : L.lookup b with
    | some o => exact absurd (C.tr b o z) (n o)
    | none => rfl
  have gf : dropL H1 L f = some (LamO f F cl dv c) := by
    rw [dropL_ne (lo f fun ob z => by rw [hf] at z; unfold LamO at z; cases z)]
    exact hf
  have gc : dropL H1 L c = some (LamX.CodeO c F.qual) := by
    rw [dropL_ne (lo c fun ob z => by rw [hc] at z; unfold LamX.CodeO at z; cases z)]
    exact hc
  have gd : DflOk (dropL H1 L) (fun _ => False) F.dfl dv := hdf.imp id fun ⟨ne, t, et, z, nz⟩ => ⟨ne, t, et, by
    rw [dropL_ne (lo t fun ob y => by rw [z] at y; cases y)]
    exact z, nz⟩
  have cel : ∀ {c : Addr} {oc : Obj} {u : Option Value}, L.lookup c = some oc → oc.data = .cell u → s1.heap.IsCell c u := fun {c oc u} e1 e2 => by
    have z : ObjOk X.prog X.w H1 s1.heap c (CelO oc) := I1.hok c _ (C.tr c oc e1)
    exact ⟨oc, z.1, e2⟩
  have CV : CelsV s1.heap (dropL H1 L) cl F.caps us := ⟨C.len, fun j x v e1 e2 => by
      obtain ⟨c, oc, u, z1, z2, z3, z4⟩ := C.val j x v e1 e2
      exact ⟨c, u, z1, cel z2 z3, z4⟩, fun x c e => by
      obtain ⟨z1, oc, u, z2, z3⟩ := C.key x c e
      exact ⟨z1, dropL_at z2, u, cel z2 z3⟩, C.inj⟩
  refine wpAny_call (codeAny_mono (hT F sp hs X.A X.stack s1 (dropL H1 L) f c dv cl us _ _ hr (env_drop I1.env0 C.tr) gf gc gd CV q) fun r s2 hq => ?_)
  have hf0 : ∀ b ∈ frs X.stack, H1 b = none := I1.stkFree
  cases r with
  | error e => exact hx σ pins H1 s1 e s2 I1 (cx_drop hq I1.hok C.tr hf0)
  | ok fl =>
    cases fl with
    | ret u =>
      obtain ⟨v, H2, os, bare, U, k2, rv, q2⟩ := hq
      obtain ⟨U1, k3, n3⟩ := un_drop U I1.hok C.tr hf0 k2
      exact I1.after ⟨v, _, os, bare, U1, k3, rv, q2 n3⟩
    | next => exact False.elim hq
    | brk => exact False.elim hq
    | cont => exact False.elim hq

open Classical in
noncomputable def tabF (tab : List (LamC × GF)) (F : LamC) : Option GF := match tab.find? fun p => p.1.id == F.id with
  | some p => if p.1 = F then some p.2 else none
  | none => none
noncomputable def TBof (K : PySem.W.Frag) (tab : List (LamC × GF)) : LamC → Option Sp := fun F => (tabF tab F).map fun g => spD K F.caps.length g
open Classical in
theorem tabF_mem {tab : List (LamC × GF)} {F : LamC} {g : GF} (h : tabF tab F = some g) : (F, g) ∈ tab := by
  unfold tabF at h
  cases e : tab.find? (fun p => p.1.id == F.id) with
  | none =>
    rw [e] at h
    cases h
  | some p =>
    rw [e] at h
    have h2 := List.mem_of_find?_eq_some e
    by_cases e1 : p.1 = F
    · have h' : some p.2 = some g := by
        have h3 : (if p.1 = F then some p.2 else none) = some g := h
        rw [if_pos e1] at h3
        exact h3
      have e2 : p.2 = g := Option.some.inj h'
      rw [← e1, ← e2]
      exact h2
    · have h3 : (if p.1 = F then some p.2 else none) = some g := h
      rw [if_neg e1] at h3
      cases h3
open Classical in
theorem tabF_hit {tab : List (LamC × GF)} {F : LamC} {g : GF} (h : tab.find? (fun p => p.1.id == F.id) = some (F, g)) : tabF tab F = some g := by
  unfold tabF
  rw [h]
  exact if_pos rfl
theorem tb_ok {P : Program} {w : World} {K : PySem.W.Frag} {mg : Str → Option Value} {base : Heap} {k : Nat} {tab : List (LamC × GF)} (h : ∀ p, p ∈ tab → LamOk P w K mg base k p.1 (spD K p.1.caps.length p.2)) : ∀ F sp, TBof K tab F = some sp → LamOk P w K mg base k F sp := fun F sp e => by
  unfold TBof at e
  cases q : tabF tab F with
  | none =>
    rw [q] at e
    cases e
  | some g =>
    rw [q] at e
    cases e
    exact h _ (tabF_mem q)
def capsOk (caps : List Str) (cl : List (Str × Addr)) (es : List (Addr × D)) : Bool := cl.all (fun p => caps.contains p.1 && (es.lookup p.2).isSome) && decide (cl.map (·.2)).Nodup
def capsGo (cl : List (Str × Addr)) (es : List (Addr × D)) : List Str → Option (List D)
  | [] => some []
  | x :: r => ((cl.lookup x).bind fun c => es.lookup c).bind fun d => (capsGo cl es r).map fun ds => d :: ds
def capsD (caps : List Str) (cl : List (Str × Addr)) (es : List (Addr × D)) : Option (List D) := if capsOk caps cl es = true then capsGo cl es caps else none
noncomputable def actGo (tab : List (LamC × GF)) (z : Option Sl) (d : D) (M : Mem) : Res D := match d, z with
  | .lam F cl, some (.env es) => (match capsD F.caps cl es, tabF tab F with
    | some ds, some gf => gf ds M
    | _, _ => .bad)
  | _, _ => .bad
/-- x(), x a lambda; slot g holds the captured cells -/
noncomputable def mAct (tab : List (LamC × GF)) (g : Nat) (mo : SE) : SE := fun ρ M => (mo ρ M).bind fun d M1 => actGo tab ρ[g]? d M1
section
variable {K : PySem.W.Frag} {W : WX}
theorem env_list {Wd' : Wd} : ∀ {es : List (Addr × D)}, EnvD K Wd' es → ∃ L : List (Addr × Obj), (∀ b o, L.lookup b = some o → Wd'.H b = some (CelO o) ∧ ¬ Wd'.bad b) ∧ ∀ b d, es.lookup b = some d → ∃ oc u v, L.lookup b = some oc ∧ oc.data = .cell (some u) ∧ RelV v u ∧ Rp K Wd' d v
  | [], _ => ⟨[], fun b o h => (nomatch h), fun b d h => (nomatch h)⟩
  | (a, d0) :: r, h => by
    obtain ⟨L, h1, h2⟩ := env_list (es := r) fun p hp => h p (List.mem_cons_of_mem _ hp)
    obtain ⟨oc, u, v, g1, g2, g3, g4, g5⟩ := h _ (List.mem_cons_self ..)
    refine ⟨(a, oc) :: L, fun b o e => ?_, fun b d e => ?_⟩
    · by_cases c : b = a
      · subst c
        have e' : some oc = some o := by simpa [List.lookup] using e
        cases e'
        exact ⟨g1, g2⟩
      · have nb : (b == a) = false := by simpa using c
        rw [List.lookup_cons, nb] at e
        exact h1 b o e
    · by_cases c : b = a
      · subst c
        have e' : some d0 = some d := by simpa [List.lookup] using e
        cases e'
        exact ⟨oc, u, v, by simp [List.lookup], g3, g4, g5⟩
      · have nb : (b == a) = false := by simpa using c
        rw [List.lookup_cons, nb] at e
        obtain ⟨oc', u', v', z1, z2⟩ := h2 b d e
        exact ⟨oc', u', v', by rw [List.lookup_cons, nb]; exact z1, z2⟩
theorem caps_vs {Wd' : Wd} {cl : List (Str × Addr)} {es : List (Addr × D)} {L : List (Addr × Obj)} (h2 : ∀ b d, es.lookup b = some d → ∃ oc u v, L.lookup b = some oc ∧ oc.data = .cell (some u) ∧ RelV v u ∧ Rp K Wd' d v) : ∀ {caps : List Str} {ds : List D}, capsGo cl es caps = some ds →
    ∃ us : List V, us.length = caps.length ∧ RpL K Wd' ds us ∧ ∀ (j : Nat) (x : Str) (v : V), caps[j]? = some x → us[j]? = some v → ∃ c oc u, cl.lookup x = some c ∧ L.lookup c = some oc ∧ oc.data = .cell (some u) ∧ RelV v u
  | [], ds, h => by
    cases h
    exact ⟨[], rfl, RpL.nil, fun j x v e => by simp at e⟩
  | x :: r, ds, h => by
    unfold capsGo at h
    cases e1 : cl.lookup x with
    | none =>
      rw [e1] at h
      cases h
    | some c =>
      rw [e1] at h
      have h' : (es.lookup c).bind (fun d => (capsGo cl es r).map fun ds => d :: ds) = some ds := h
      cases e2 : es.lookup c with
      | none =>
        rw [e2] at h'
        cases h'
      | some d =>
        rw [e2] at h'
        have h'' : (capsGo cl es r).map (fun ds => d :: ds) = some ds := h'
        cases e3 : capsGo cl es r with
        | none =>
          rw [e3] at h''
          cases h''
        | some dr =>
          rw [e3] at h''
          cases h''
          obtain ⟨us, g1, g2, g3⟩ := caps_vs h2 e3
          obtain ⟨oc, u, v, z1, z2, z3, z4⟩ := h2 c d e2
          refine ⟨v :: us, by simp [g1], RpL.cons z4 g2, fun j y w ey ew => ?_⟩
          cases j with
          | zero =>
            have ey' : some x = some y := by simpa using ey
            have ew' : some v = some w := by simpa using ew
            cases ey'
            cases ew'
            exact ⟨c, oc, u, e1, z1, z2, z3⟩
          | succ j =>
            exact g3 j y w (by simpa using ey) (by simpa using ew)
theorem nodup_snd {cl : List (Str × Addr)} (h : (cl.map (·.2)).Nodup) : ∀ x y c, cl.lookup x = some c → cl.lookup y = some c → x = y := by
  induction cl with
  | nil => intro x y c e; cases e
  | cons p r ih =>
    obtain ⟨n, a⟩ := p
    intro x y c e1 e2
    have h' : (a :: r.map (·.2)).Nodup := h
    obtain ⟨h1, h2⟩ := List.nodup_cons.mp h'
    by_cases cx : x = n
    · by_cases cy : y = n
      · rw [cx, cy]
      · subst cx
        have e1' : some a = some c := by simpa [List.lookup] using e1
        cases e1'
        have nb : (y == x) = false := by simpa using cy
        rw [List.lookup_cons, nb] at e2
        exact absurd (List.mem_map.mpr ⟨(y, a), PySem.mem_of_lookup e2, rfl⟩) h1
    · have nb : (x == n) = false := by simpa using cx
      rw [List.lookup_cons, nb] at e1
      by_cases cy : y = n
      · subst cy
        have e2' : some a = some c := by simpa [List.lookup] using e2
        cases e2'
        exact absurd (List.mem_map.mpr ⟨(x, a), PySem.mem_of_lookup e1, rfl⟩) h1
      · have nb2 : (y == n) = false := by simpa using cy
        rw [List.lookup_cons, nb2] at e2
        exact ih h2 x y c e1 e2
theorem snd_act {tab : List (LamC × GF)} {g : Nat} {te : TE} {mo : SE} (ho : Snd K W te mo) : Snd K W (tAct (TBof K tab) (WE W) te) (mAct tab g mo) := fun hid σ ρ M ad H Q k r h => by
  refine ho.step k r (pV K hid Q (wx W σ)) h fun d M1 x ad1 H1 f1 k1 rx r1 h1 => ?_
  cases d with
  | lam F cl =>
    simp only [Rp] at rx
    obtain ⟨f, c, dv, e, z1, n1, z2, n2, z3⟩ := rx
    cases er : ρ[g]? with
    | none =>
      rw [er] at h1
      exact h1.elim
    | some y =>
      cases y with
      | env es =>
        have h2 : (pV K hid Q (wx W σ)).P M1 ad1 H1 (match capsD F.caps cl es, tabF tab F with
          | some ds, some gf => gf ds M1
          | _, _ => Res.bad) := by
          rw [er] at h1
          exact h1
        cases ec : capsD F.caps cl es with
        | none =>
          rw [ec] at h2
          exact h2.elim
        | some ds =>
          cases et : tabF tab F with
          | none =>
            rw [ec, et] at h2
            exact h2.elim
          | some gf =>
            rw [ec, et] at h2
            have h3 : (pV K hid Q (wx W σ)).P M1 ad1 H1 (gf ds M1) := h2
            unfold capsD at ec
            by_cases co : capsOk F.caps cl es = true
            · rw [if_pos co] at ec
              unfold capsOk at co
              obtain ⟨co1, co2⟩ := Bool.and_eq_true_iff.mp co
              have co2 := of_decide_eq_true co2
              obtain ⟨L, hL1, hL2⟩ := env_list (r1.env g es er)
              obtain ⟨us, u1, u2, u3⟩ := caps_vs hL2 ec
              have tr : ∀ b o, L.lookup b = some o → H1 b = some (CelO o) := fun b o e => (hL1 b o e).1
              have hh : ∀ a, hid a → L.lookup a = none := fun a z => by
                cases q : L.lookup a with
                | some o => exact absurd (.inl z) (hL1 a o q).2
                | none => rfl
              have dr := dr_of (hid := hid) (M := M1) (ad := ad1) fun b o e => ⟨o, tr b o e⟩
              have C : CelsL H1 L cl F.caps us := ⟨u1, u3, fun y c0 ey => by
                  have hm := List.all_eq_true.mp co1 (y, c0) (PySem.mem_of_lookup ey)
                  obtain ⟨m1, m2⟩ := Bool.and_eq_true_iff.mp hm
                  obtain ⟨d0, ed0⟩ := Option.isSome_iff_exists.mp m2
                  obtain ⟨oc, u, v, q1, q2, _⟩ := hL2 c0 d0 ed0
                  exact ⟨by simpa using m1, oc, _, q1, q2⟩, nodup_snd co2, tr⟩
              have kd : Ok K hid M1 ad1 (dropL H1 L) := ok_drop k1 (fun b o e => ⟨o, tr b o e⟩) hh
              refine ⟨f, F, cl, dv, c, us, L, spD K F.caps.length gf, e, z1, z2, z3.imp id (fun ⟨ne, t, et, y, ny⟩ => ⟨ne, t, et, y, fun q => q⟩), C, by unfold TBof; rw [et] <;> rfl, hid, ds, M1, ad1, ?_, kd, RpL.dr dr ds u2, ?_⟩
              · rw [← u2.len, u1]
              · cases eg : gf ds M1 with
                | ok d2 M2 =>
                  rw [eg] at h3
                  intro v ad2 H2 f2 k2 r2 no
                  obtain ⟨f3, k3⟩ := fr_add k2 no
                  exact h3 v ad2 (addL H2 L) (fr_keep f2 tr hh k2 no fun b o e => (hL1 b o e).2) k3 (Rp.le f3.le _ r2)
                | exc c2 ns2 ds2 M2 =>
                  rw [eg] at h3
                  intro dx es2 ad2 H2 f2 k2 q1 q2 q3 no
                  obtain ⟨f3, k3⟩ := fr_add k2 no
                  refine h3 dx es2 ad2 (addL H2 L) (fr_keep f2 tr hh k2 no fun b o e => (hL1 b o e).2) k3 q1 ⟨?_, q2.2⟩ (RpL.le f3.le _ q3)
                  cases ql : L.lookup dx with
                  | some o =>
                    have q2' := q2.1
                    rw [no dx o ql] at q2'
                    cases q2'
                  | none => rw [addL_ne ql]; exact q2.1
                | bad =>
                  rw [eg] at h3
                  exact h3.elim
            · rw [if_neg co] at ec
              cases ec
      | _ =>
        rw [er] at h1
        exact h1.elim
  | _ => exact h1.elim
end
end LM

end
section
set_option maxHeartbeats 4000000
namespace LM
open PySem PySem.Spec PyProof.Rows L2 DL
abbrev GE := List (Addr × D) → GF
def endB : Res Fl → Res D
  | .ok (.nx _) M' => .ok .non M'
  | .ok (.rt d) M' => .ok d M'
  | .ok (.ex _ c ns vs) M' => .exc c ns vs M'
  | _ => .bad
section
variable {K : PySem.W.Frag} {hid : Addr → Prop} {M : Mem} {ad : List Addr} {H : Hp} {ρ : Rho} {σ : L2.St} {W : WX}
theorem run_body {E : XK} {Q : VK} {ts : TS} {m : SS} (s : SndS K (fun c d _ H' => E c d H') ts m) (k : Ok K hid M ad H) (r : RpS K hid M ad H ρ σ) (no : ∀ (i : Nat) (o : MO), ρ[i]? ≠ some (Sl.own o)) (q : (pV K hid Q E).P M ad H (endB (m ρ M))) :
    ts { nx := fun _ H' => Q .non H', rt := Q } σ H := by
  have noW : ∀ a, ¬ ow ρ σ a := fun a ⟨i, o, z, _⟩ => no i o z
  have sub : ∀ a, hS hid ρ σ a → hid a := fun a z => z.resolve_right (noW a)
  have hS_eq : hS hid ρ σ = hid := by
    funext a
    exact propext ⟨sub a, .inl⟩
  have st : StS K hid M ad H ρ σ := ⟨by rw [hS_eq]; exact k, by rw [hS_eq]; exact r, fun a z => (noW a z).elim⟩
  have fr : ∀ {h2 : Addr → Prop} {M' : Mem} {ad' : List Addr} {H' : Hp}, (∀ a, hid a → h2 a) → FrG hid (hS hid ρ σ) h2 M ad H M' ad' H' → Fr hid M ad H M' ad' H' := fun {h2 M' ad' H'} hh f =>
    ⟨(Le.unhid sub).trans (f.le.trans (Le.unhid hh)), f.hidk, f.dom⟩
  refine s hid _ _ M ad H _ st ?_
  cases em : m ρ M with
  | exc _ _ _ _ =>
    rw [em] at q
    exact q.elim
  | bad =>
    rw [em] at q
    exact q.elim
  | ok fl M1 =>
    rw [em] at q
    cases fl with
    | nx ρ1 => exact fun σ1 ad1 H1 f1 s1 => q .non ad1 H1 (fr (fun _ z => .inl z) f1) s1.unhid (by simp [Rp])
    | rt d => exact fun v ad1 H1 f1 k1 r1 => q v ad1 H1 (fr (fun _ z => z) f1) k1 r1
    | ex ρ1 c ns us => exact fun σ1 dx es ad1 H1 f1 s1 e1 e2 e3 => q dx es ad1 H1 (fr (fun _ z => .inl z) f1) s1.unhid e1 ⟨e2.1, fun z => e2.2 (z.elim (fun y => .inl (.inl y)) .inr)⟩ e3
    | bk _ => exact q.elim
    | ct _ => exact q.elim
theorem rps_start {N : List Str} {ds : List D} {vs : List V} (r : RpL K (wd hid M ad H) ds vs) : RpS K hid M ad H (rho0 N.length ds) (L2.start N vs) := by
  refine ⟨?_, fun i d z => ?_, fun i o z => (rho0_no z).elim, fun i j o u a z => (rho0_no z).elim, fun i es z => (rho0_oth z (fun d q => by cases q) (fun q => by cases q)).elim, fun i c ns ds z => (rho0_oth z (fun d q => by cases q) (fun q => by cases q)).elim⟩
  · unfold L2.start rho0
    rw [List.length_append, List.length_append, List.length_map, List.length_map, List.length_replicate, List.length_replicate, r.len]
  · unfold rho0 at z
    by_cases c : i < ds.length
    · rw [List.getElem?_append_left (by simpa using c), List.getElem?_map] at z
      cases e2 : ds[i]? with
      | none =>
        rw [e2] at z
        cases z
      | some d' =>
        rw [e2] at z
        have e3 : d' = d := by
          have := Option.some.inj z
          injection this
        subst e3
        obtain ⟨v, g1, g2⟩ := r.get e2
        refine ⟨v, ?_, g2⟩
        unfold L2.start
        rw [List.getElem?_append_left (by rw [List.length_map, r.len]; exact c), List.getElem?_map, g1]
        rfl
    · rw [List.getElem?_append_right (by simpa using c), List.getElem?_replicate] at z
      split at z <;> cases z
theorem set_eq {i j : Nat} {y z : Sl} (e : (ρ.set i y)[j]? = some z) : (j = i ∧ z = y) ∨ (j ≠ i ∧ ρ[j]? = some z) := by
  by_cases c : i = j
  · subst c
    rw [List.getElem?_set_self'] at e
    cases q : ρ[i]? with
    | none =>
      rw [q] at e
      cases e
    | some u =>
      rw [q] at e
      exact .inl ⟨rfl, (Option.some.inj e).symm⟩
  · rw [List.getElem?_set_ne c] at e
    exact .inr ⟨fun z => c z.symm, e⟩
theorem rps_env {g : Nat} {es : List (Addr × D)} (r : RpS K hid M ad H ρ σ) (h : EnvD K (wd hid M ad H) es) : RpS K hid M ad H (ρ.set g (.env es)) σ := by
  refine ⟨by rw [List.length_set]; exact r.len, fun i d z => ?_, fun i o z => ?_, fun i j o u a z1 z2 => ?_, fun i es' z => ?_, fun i c ns ds z => ?_⟩
  · rcases set_eq z with ⟨_, e⟩ | ⟨_, e⟩
    · cases e
    · exact r.val i d e
  · rcases set_eq z with ⟨_, e⟩ | ⟨_, e⟩
    · cases e
    · exact r.own i o e
  · rcases set_eq z1 with ⟨_, e⟩ | ⟨_, e1⟩
    · cases e
    · rcases set_eq z2 with ⟨_, e⟩ | ⟨_, e2⟩
      · cases e
      · exact r.inj i j o u a e1 e2
  · rcases set_eq z with ⟨_, e⟩ | ⟨_, e⟩
    · cases e
      exact h
    · exact r.env i es' e
  · rcases set_eq z with ⟨_, e⟩ | ⟨_, e⟩
    · cases e
    · exact r.cau i c ns ds e
/-- the promise of a def that calls lambdas: es are the cells that they captured -/
def spE (K : PySem.W.Frag) (n : Nat) (ge : GE) : Sp := fun vs H Q E => ∃ (es : List (Addr × D)) (hid : Addr → Prop) (ds : List D) (M : Mem) (ad : List Addr), ds.length = n ∧ Ok K hid M ad H ∧ EnvD K (wd hid M ad H) es ∧ RpL K (wd hid M ad H) ds vs ∧ (pV K hid Q E).P M ad H (ge es ds M)
theorem spE_len {n : Nat} {g : GE} {vs : List V} {Q : VK} {E : XK} (h : spE K n g vs H Q E) : vs.length = n := by
  obtain ⟨_, _, ds, _, _, e, _, _, r, _⟩ := h
  rw [r.len, e]
def mBodyE (N g : Nat) (m : SS) : GE := fun es ds M => endB (m ((rho0 N ds).set g (.env es)) M)
theorem body_okE {E : XK} {Q : VK} {N : List Str} {n g : Nat} {ts : TS} {m : SS} (s : SndS K (fun c d _ H' => E c d H') ts m) {vs : List V} (h : spE K n (mBodyE N.length g m) vs H Q E) : ts { nx := fun _ H' => Q .non H', rt := Q } (L2.start N vs) H := by
  obtain ⟨es, hid, ds, M, ad, e, k, he, r, q⟩ := h
  refine run_body s k (rps_env (rps_start r) he) (fun i o z => ?_) q
  rcases set_eq z with ⟨_, e⟩ | ⟨_, e⟩
  · cases e
  · exact rho0_no e
/-- a call that passes the environment on -/
def mCallEnv (n : Nat) (ge : GE) (g : Nat) (ma : SA) : SE := fun ρ M => (ma ρ M).bind fun ds M1 => match ρ[g]? with
  | some (.env es) => if ds.length = n then ge es ds M1 else .bad
  | _ => .bad
theorem snd_callEnv {n g : Nat} {ge : GE} {ta : TA} {ma : SA} (ha : SndA K W ta ma) : Snd K W (tCallS (spE K n ge) (WE W) ta) (mCallEnv n ge g ma) := fun hid σ ρ M ad H Q k r h => by
  refine ha.step k r (pV K hid Q (wx W σ)) h fun ds M1 xs ad1 H1 f1 k1 rx r1 h1 => ?_
  cases er : ρ[g]? with
  | none =>
    rw [er] at h1
    exact h1.elim
  | some y =>
    cases y with
    | env es =>
      rw [er] at h1
      have h2 : (pV K hid Q (wx W σ)).P M1 ad1 H1 (if ds.length = n then ge es ds M1 else .bad) := h1
      by_cases c : ds.length = n
      · rw [if_pos c] at h2
        exact ⟨es, hid, ds, M1, ad1, c, k1, r1.env g es er, rx, h2⟩
      · rw [if_neg c] at h2
        exact h2.elim
    | _ =>
      rw [er] at h1
      exact h1.elim
end

/-- L tells the cells at cv -/
structure MatL (H : Hp) (L : List (Addr × Obj)) (cv : List (Addr × V)) : Prop where
  fr : ∀ b o, L.lookup b = some o → H b = none
  at_ : ∀ p ∈ cv, ∃ (o : Obj) (u : Value), L.lookup p.1 = some o ∧ o.data = .cell (some u) ∧ RelV p.2 u
def tCallB (cs : List (Addr × Nat)) (sp : Sp) (ta : TA) : TE := fun σ H Q => ta σ H fun vs H1 => ∃ cv : List (Addr × V), (∀ p ∈ cv, ∃ i, (p.1, i) ∈ cs ∧ σ[i]? = some (some p.2)) ∧
  ∀ L, MatL H1 L cv → sp vs (addL H1 L) (fun v H2 => (∀ b o, L.lookup b = some o → H2 b = some (CelO o)) → Q v (dropL H2 L)) (fun _ _ _ => False)
/-- the cells of the frame, each with the slot of its name -/
structure CsOk (X : Cx) (cs : List (Addr × Nat)) : Prop where
  ok : ∀ p ∈ cs, ∃ x, X.N[p.2]? = some x ∧ X.env.cells.lookup x = some p.1 ∧ X.env.scope.names.lookup x = some .cell ∧ X.fn x = true
section
variable {X : Cx} {k : Nat} {f : Addr} {fd : FuncData} {ps : List Str} {sp : Sp} {x : Str} {q pos : Pos} {e : Expr} {es : List Expr} {t : TA} {cs : List (Addr × Nat)}
theorem cells_list {pins : List (Addr × Obj)} {σ : L2.St} {H : Hp} {s : Shared} (I : Inv X pins σ H s) (hc : CsOk X cs) : ∀ {cv : List (Addr × V)}, (∀ p ∈ cv, ∃ i, (p.1, i) ∈ cs ∧ σ[i]? = some (some p.2)) →
    ∃ L : List (Addr × Obj), (∀ b o, L.lookup b = some o → s.heap.get? b = some o ∧ H b = none ∧ b ∉ frs X.stack ∧ X.base.get? b = none) ∧ ∀ p ∈ cv, ∃ (o : Obj) (u : Value), L.lookup p.1 = some o ∧ o.data = .cell (some u) ∧ RelV p.2 u
  | [], _ => ⟨[], fun b o z => (nomatch z), fun p hp => (nomatch hp)⟩
  | p :: r, h => by
    obtain ⟨L, h1, h2⟩ := cells_list I hc (cv := r) fun p hp => h p (List.mem_cons_of_mem _ hp)
    obtain ⟨i, hi, hs⟩ := h p (List.mem_cons_self ..)
    obtain ⟨y, y1, y2, y3, y4⟩ := hc.ok _ hi
    obtain ⟨m, hn, hl⟩ := I.loc
    obtain ⟨u, ru, lk⟩ := hl i y p.2 y1 hs (.inr (.inl y3))
    have y3' : X.env.kindOf y = some .cell := y3
    have cel : ∃ o : Obj, s.heap.get? p.1 = some o ∧ o.data = .cell (some u) := by
      rcases lk with ⟨z, _⟩ | ⟨_, c, z1, z2⟩
      · rw [y3'] at z
        cases z
      · rw [y2] at z1
        cases z1
        exact z2
    obtain ⟨o, o1, o2⟩ := cel
    have above : X.s_0.heap.objs.size ≤ p.1 := I.ok.cab y p.1 y4 y2
    have n0 : X.s_0.heap.get? p.1 = none := Heap.get?_none_of_le above
    refine ⟨(p.1, o) :: L, fun b o' z => ?_, fun p' hp' => ?_⟩
    · by_cases cb : b = p.1
      · subst cb
        have z' : some o = some o' := by simpa [List.lookup] using z
        cases z'
        refine ⟨o1, I.freeC y p.1 y2, fun hb => ?_, ?_⟩
        · rcases List.mem_cons.mp (I.stkSub _ hb) with e | hb
          · exact I.cne y p.1 y2 e
          · obtain ⟨_, oo, ho, _⟩ := I.ok.funs.mem hb
            rw [n0] at ho
            cases ho
        · cases z : X.base.get? p.1 with
          | none => rfl
          | some oo =>
            have := (I.ok.bs _ _ z).1
            rw [n0] at this
            cases this
      · have nb : (b == p.1) = false := by simpa using cb
        rw [List.lookup_cons, nb] at z
        exact h1 b o' z
    · rcases List.mem_cons.mp hp' with e | hp'
      · subst e
        exact ⟨o, u, by simp [List.lookup], o2, ru⟩
      · by_cases cb : p'.1 = p.1
        · obtain ⟨o', u', z1, z2, z3⟩ := h2 p' hp'
          have e1 := (h1 _ _ z1).1
          rw [cb, o1] at e1
          cases e1
          exact ⟨o, u', by rw [cb]; simp [List.lookup], z2, z3⟩
        · obtain ⟨o', u', z1, z2, z3⟩ := h2 p' hp'
          have nb : (p'.1 == p.1) = false := by simpa using cb
          exact ⟨o', u', by rw [List.lookup_cons, nb]; exact z1, z2, z3⟩
theorem pe_callB (hc : CsOk X cs) (F : FnOk X.prog X.w X.K X.mg X.base (L2.CX X.prog X.w) k f fd ps sp) (hr : Room k X.A) (hg : Gl X x) (hm : X.mg x = some (.ref f)) (hk : PySem.W.keepIn X.K (.ref f) = true) (hb : Binds X.K fd ps [])
    (ha : PA X (e :: es) t) (hdb : (x == ("__debug__" : Str)) = false := by decide) (he : starEach (e :: es) X.env = (false, eval e X.env) :: starEach es X.env := by rfl) (hpl : (backTo pos (starEach es X.env)).any (·.1) = false := by rfl) :
    PE X (.Call (.Name x q) (e :: es) [] pos) (tCallB cs sp t) := by
  refine ⟨fun pins s σ H Q I h => ?_⟩
  refine wpAny_Call_Name_kw (ld_glob I hg hm ?_ hdb)
  refine PySem.W.callWith_K (h₀ := X.base) I.ok.mod.kin hk (thn (ha.run pos pins s σ H _ I h) fun us s1 ⟨vs, H1, I1, r, cv, hcv, q⟩ => ⟨I1.kIn, ?_⟩) he hpl
  obtain ⟨L, l1, l2⟩ := cells_list I1 hc hcv
  have hq := q L ⟨fun b o z => (l1 b o z).2.1, l2⟩
  have hl : us.length = ps.length := by rw [← r.length]; exact F.len _ _ _ _ hq
  have b := hb s1 us I1.kIn (by rw [List.append_nil]; exact hl)
  rw [List.append_nil] at b
  refine wpAny_call (codeAny_mono (F.run X.A X.stack s1 (addL H1 L) ⟨us, []⟩ us vs _ _ hr (env_add I1.env0 l1) b r hq) fun r s' hq' => ?_)
  cases r with
  | error e =>
    obtain ⟨_, _, _, _, _, _, _, _, _, _, _, _, z⟩ := hq'
    exact z.elim
  | ok fl =>
    cases fl with
    | ret u =>
      obtain ⟨v, H2, os, bare, U, k2, rv, q2⟩ := hq'
      obtain ⟨U1, k3, at3⟩ := un_add U (fun b o z => ⟨(l1 b o z).1, (l1 b o z).2.1, (l1 b o z).2.2.1⟩) k2
      exact I1.after ⟨v, _, os, bare, U1, k3, rv, q2 at3⟩
    | next => exact False.elim hq'
    | brk => exact False.elim hq'
    | cont => exact False.elim hq'
end
/-- the cells' values in the slots -/
def slD (a : Addr) : Option Sl → Option (Addr × D)
  | some (.val d) => some (a, d)
  | _ => none
def envOf (cs : List (Addr × Nat)) (ρ : Rho) : List (Addr × D) := cs.filterMap fun p => slD p.1 ρ[p.2]?
def mCallB (n : Nat) (ge : GE) (cs : List (Addr × Nat)) (ma : SA) : SE := fun ρ M => (ma ρ M).bind fun ds M1 => if ds.length = n then (ge (envOf cs ρ) ds M1).noX else .bad
section
variable {K : PySem.W.Frag} {hid : Addr → Prop} {M : Mem} {ad : List Addr} {H : Hp} {ρ : Rho} {σ : L2.St} {W : WX}
theorem env_cv (r : RpS K hid M ad H ρ σ) : ∀ cs : List (Addr × Nat), ∃ cv : List (Addr × V), (∀ p ∈ cv, ∃ i, (p.1, i) ∈ cs ∧ σ[i]? = some (some p.2)) ∧ ∀ p ∈ envOf cs ρ, ∃ v, (p.1, v) ∈ cv ∧ Rp K (wd hid M ad H) p.2 v
  | [] => ⟨[], fun p hp => (nomatch hp), fun p hp => (nomatch (show p ∈ ([] : List (Addr × D)) from hp))⟩
  | (a, i) :: cs => by
    obtain ⟨cv, h1, h2⟩ := env_cv r cs
    have old : ∀ p ∈ cv, ∃ j, (p.1, j) ∈ (a, i) :: cs ∧ σ[j]? = some (some p.2) := fun p hp => let ⟨j, z1, z2⟩ := h1 p hp; ⟨j, List.mem_cons_of_mem _ z1, z2⟩
    cases e : ρ[i]? with
    | none =>
      have ee : envOf ((a, i) :: cs) ρ = envOf cs ρ := by unfold envOf; rw [List.filterMap_cons, e] <;> rfl
      rw [ee]
      exact ⟨cv, old, h2⟩
    | some z =>
      cases z with
      | val d =>
        have ee : envOf ((a, i) :: cs) ρ = (a, d) :: envOf cs ρ := by unfold envOf; rw [List.filterMap_cons, e] <;> rfl
        rw [ee]
        obtain ⟨v, g1, g2⟩ := r.val i d e
        refine ⟨(a, v) :: cv, fun p hp => ?_, fun p hp => ?_⟩
        · rcases List.mem_cons.mp hp with e | hp
          · subst e
            exact ⟨i, List.mem_cons_self .., g1⟩
          · exact old p hp
        · rcases List.mem_cons.mp hp with e | hp
          · subst e
            exact ⟨v, List.mem_cons_self .., g2⟩
          · obtain ⟨w, z1, z2⟩ := h2 p hp
            exact ⟨w, List.mem_cons_of_mem _ z1, z2⟩
      | _ =>
        have ee : envOf ((a, i) :: cs) ρ = envOf cs ρ := by unfold envOf; rw [List.filterMap_cons, e] <;> rfl
        rw [ee]
        exact ⟨cv, old, h2⟩
theorem snd_callB {n : Nat} {ge : GE} {cs : List (Addr × Nat)} {ta : TA} {ma : SA} (ha : SndA K W ta ma) : Snd K W (tCallB cs (spE K n ge) ta) (mCallB n ge cs ma) := fun hid σ ρ M ad H Q k r h => by
  refine ha.step k r (pV K hid Q (wx W σ)) h fun ds M1 xs ad1 H1 f1 k1 rx r1 h1 => ?_
  by_cases c : ds.length = n
  · rw [if_pos c] at h1
    obtain ⟨cv, c1, c2⟩ := env_cv r1 cs
    refine ⟨cv, c1, fun L mL => ?_⟩
    obtain ⟨f2, k2⟩ := fr_add k1 mL.fr
    refine ⟨envOf cs ρ, hid, ds, M1, ad1, c, k2, fun p hp => ?_, RpL.le f2.le _ rx, ?_⟩
    · obtain ⟨v, v1, v2⟩ := c2 p hp
      obtain ⟨o, u, u1, u2, u3⟩ := mL.at_ _ v1
      exact ⟨o, u, v, addL_at u1, k1.fresh (mL.fr _ _ u1), u2, u3, Rp.le f2.le _ v2⟩
    · cases eg : ge (envOf cs ρ) ds M1 with
      | ok d2 M2 =>
        rw [eg] at h1
        intro v ad2 H2 f3 k3 r3 at3
        have hL' : ∀ b o, L.lookup b = some o → ∃ ob, H2 b = some (CelO ob) := fun b o z => ⟨o, at3 b o z⟩
        have hh : ∀ a, hid a → L.lookup a = none := fun a z => by
          cases q : L.lookup a with
          | some o => exact absurd (mL.fr a o q) (k1.hh a z)
          | none => rfl
        exact h1 v ad2 (dropL H2 L) (fr_drop f3 mL.fr hL' k1.hh) (ok_drop k3 hL' hh) (Rp.dr (dr_of hL') _ r3)
      | exc _ _ _ _ =>
        rw [eg] at h1
        exact h1.elim
      | bad =>
        rw [eg] at h1
        exact h1.elim
  · rw [if_neg c] at h1
    exact h1.elim
end
end LM

end
section
set_option maxHeartbeats 4000000
namespace LM
open PySem PySem.Spec PyProof.Rows L2 DL LamX
/-- the table at P tells code objects of the name q alone -/
def TbWf (H : Hp) (P : Addr) (q : Str) (ps : Array Value) : Prop := H P = some (.tbl ps) ∧ TriplesOk ps.toList ∧ ∀ (pos : Pos) (cv : Value), codeAmong pos ps.toList = some cv → ∃ c, cv = .ref c ∧ H c = some (CodeO c q)
/-- what the making of a lambda leaves -/
structure LamNew (H : Hp) (P : Addr) (F : LamC) (cl : List (Str × Addr)) (ps : Array Value) (H' : Hp) (f c : Addr) (dv : Value) : Prop where
  keep : ∀ b o, H b = some o → b ≠ P → H' b = some o
  fresh : ∀ b, H' b = none → H b = none
  fn : H' f = some (LamO f F cl dv c)
  fnew : H f = none
  co : H' c = some (CodeO c F.qual)
  cold : H c = none ∨ ∃ pos, codeAmong pos ps.toList = some (.ref c)
  tab : ∃ ps', H' P = some (.tbl ps') ∧ TriplesOk ps'.toList ∧ ∀ (pos : Pos) (cv : Value), codeAmong pos ps'.toList = some cv → cv = .ref c ∨ ∃ pos', codeAmong pos' ps.toList = some cv
  dfl : (F.dfl = [] ∧ dv = .none) ∨ (F.dfl ≠ [] ∧ ∃ t, dv = .ref t ∧ H' t = some (.tup F.dfl) ∧ H t = none)
section
variable {X : Cx} {pins : List (Addr × Obj)} {σ : L2.St} {H : Hp} {s : Shared}
theorem inv_lam {F : LamC} {cl : List (Str × Addr)} {c : Addr} {dv doc pm ctv : Value} {t' : Nat} (I : Inv X pins σ H s) : Inv X pins σ (upd H s.heap.objs.size (LamO s.heap.objs.size F cl dv c))
    { s with heap := s.heap.push ({ cls := .type "function", data := .func (PySem.W.kdv_fn "<lambda>" F.qual F.params (.expr F.body) F.scope cl dv doc pm (.ref c) ctv) } : Obj), toks := t' } := by
  refine I.laid (a := s.heap.objs.size) (fun b u e => Heap.get?_push_of_some _ e) (Nat.le_refl _) ?_
  have e : (s.heap.push ({ cls := .type "function", data := .func (PySem.W.kdv_fn "<lambda>" F.qual F.params (.expr F.body) F.scope cl dv doc pm (.ref c) ctv) } : Obj)).get? s.heap.objs.size = some ({ cls := .type "function", data := .func (PySem.W.kdv_fn "<lambda>" F.qual F.params (.expr F.body) F.scope cl dv doc pm (.ref c) ctv) } : Obj) := Heap.get?_push_size _ rfl
  exact ⟨⟨_, _, doc, pm, ctv, e⟩, ⟨_, e⟩, fun h1 h2 ⟨od, sl, d, p, t, z⟩ st => ⟨od, sl, d, p, t, st _ z⟩⟩
theorem lamO_ne {f c : Addr} {F : LamC} {cl : List (Str × Addr)} {dv : Value} {u : HO} (h : ∀ φ, u ≠ .ext φ) : LamO f F cl dv c ≠ u := fun z => h _ (by unfold LamO at z; exact z.symm)
/-- behind the defaults -/
theorem lam_tail {A : Around} {E : Value → Shared → Prop} {F : LamC} {c P : Addr} {dv : Value} {ps : Array Value} {pos : Pos} {line : Nat} {Q : Value → Shared → Prop} (I : Inv X pins σ H s) (TB : TabB X.base X.mg c P) (hcode : X.env.code = .ref c) (hq : F.qual = X.env.qual ++ "<lambda>")
    (hT : TbWf H P F.qual ps) (hfree : ∀ y ∈ F.scope.names, y.2 = .free → ∃ c, X.env.cells.lookup y.1 = some c)
    (h : ∀ (f c' : Addr) (H1 : Hp) (s' : Shared), Inv X pins σ H1 s' → (∀ b o, H b = some o → b ≠ P → H1 b = some o) → (∀ b, H1 b = none → H b = none) → H1 f = some (LamO f F (cloFrom X.env.cells F.scope.names []) dv c') → H f = none → H1 c' = some (CodeO c' F.qual) →
      (H c' = none ∨ ∃ pos, codeAmong pos ps.toList = some (.ref c')) → (∃ ps', H1 P = some (.tbl ps') ∧ TriplesOk ps'.toList ∧ ∀ (pos : Pos) (cv : Value), codeAmong pos ps'.toList = some cv → cv = .ref c' ∨ ∃ pos', codeAmong pos' ps.toList = some cv) → Q (.ref f) s') :
    wpAny (model X.prog X.w) A (makeTail "<lambda>" F.qual F.params (.expr F.body) F.scope X.env dv .none none pos line) Q E s := by
  obtain ⟨hP, ht, ha⟩ := hT
  have bP : s.heap.BuiltinsAt X.mg P := TB.bm.keeps I.bk
  have hP' : s.heap.get? P = some { cls := .none, data := .fields ps } := I.hok P _ hP
  cases hc : codeAmong pos ps.toList with
  | none =>
    refine PySem.W.kdv_makeTail (mg := X.mg) (c := c) (P := P) (ps := ps) (closure_ok hfree) I.ok.glob (I.mod.glob.keeps I.bk) hcode (TB.code.keeps I.bk) hP' ht hc TB.gP bP fun c' ctv doc h' tk hx hge hlt hrec htb => ?_
    obtain ⟨c2, oc, vs, t, e2, hoc, hd, hv⟩ := hrec
    cases e2
    have nC : H c' = none := I.hok.fresh hge
    have I1 := inv_table (t' := tk) (more := #[rawInt pos.line, rawInt pos.col, .ref c']) (h' := h') I hP (fun b o hb e => hx b o hb e) htb hge ⟨oc, vs, t, hoc, hd, hv⟩
    have I2 := inv_lam (F := F) (cl := cloFrom X.env.cells F.scope.names []) (c := c') (dv := dv) (doc := doc) (pm := (X.mg "__name__").getD .none) (ctv := ctv) (t' := tk) I1
    have hsz : s.heap.objs.size ≤ h'.objs.size := Nat.le_trans hge (Nat.le_of_lt hlt)
    have nF : H h'.objs.size = none := I.hok.fresh hsz
    have nfc : h'.objs.size ≠ c' := Nat.ne_of_gt hlt
    have nPc : P ≠ c' := ne_of_none hP nC
    have nPf : P ≠ h'.objs.size := ne_of_none hP nF
    have eL : (ps ++ #[rawInt pos.line, rawInt pos.col, .ref c']).toList = ps.toList ++ [rawInt pos.line, rawInt pos.col, .ref c'] := by simp
    refine h h'.objs.size c' _ _ I2 (fun b o e n => ?_) (fun b e => ?_) upd_same nF ?_ (.inl nC) ⟨ps ++ #[rawInt pos.line, rawInt pos.col, .ref c'], ?_, by rw [eL]; exact PySem.TriplesOk_snoc _ _ _ _ ht, fun p' cv hcv => ?_⟩
    · show upd _ h'.objs.size _ b = some o
      rw [upd_ne (ne_of_none e nF), upd_ne (ne_of_none e nC), upd_ne n]
      exact e
    · exact NdefX.upd_none (NdefX.upd_none (NdefX.upd_none e))
    · show upd _ h'.objs.size _ c' = _
      rw [upd_ne (Ne.symm nfc), upd_same]
    · show upd _ h'.objs.size _ P = _
      rw [upd_ne nPf, upd_ne nPc, upd_same]
    · rw [eL] at hcv
      rcases among_app _ ht hcv with z | z
      · exact .inr ⟨p', z⟩
      · exact .inl z
  | some cv =>
    obtain ⟨c', e, hco⟩ := ha pos cv hc
    subst e
    refine PySem.W.kdv_makeTailHit (mg := X.mg) (c := c) (P := P) (ps := ps) (closure_ok hfree) I.ok.glob (I.mod.glob.keeps I.bk) hcode (TB.code.keeps I.bk) hP' ht hc bP fun ctv doc h' tk hx hsz => ?_
    have I1 : Inv X pins σ H { s with heap := h', toks := tk } := I.kept hx
    have nF : H h'.objs.size = none := I1.hok.fresh (Nat.le_refl _)
    have I2 := inv_lam (F := F) (cl := cloFrom X.env.cells F.scope.names []) (c := c') (dv := dv) (doc := doc) (pm := (X.mg "__name__").getD .none) (ctv := ctv) (t' := tk) I1
    refine h h'.objs.size c' _ _ I2 (fun b o e n => ?_) (fun b e => NdefX.upd_none e) upd_same nF ?_ (.inr ⟨pos, hc⟩) ⟨ps, ?_, ht, fun p' cv hcv => .inr ⟨p', hcv⟩⟩
    · show upd _ h'.objs.size _ b = some o
      rw [upd_ne (ne_of_none e nF)]
      exact e
    · show upd _ h'.objs.size _ c' = _
      rw [upd_ne (ne_of_none hco nF)]
      exact hco
    · show upd _ h'.objs.size _ P = _
      rw [upd_ne (ne_of_none hP nF)]
      exact hP
def tLamE (P : Addr) (F : LamC) (cl : List (Str × Addr)) : TE := fun σ H Q => ∃ ps, TbWf H P F.qual ps ∧ ∀ H' f c dv, LamNew H P F cl ps H' f c dv → Q (.ref f) H'
theorem pe_lam0 {F : LamC} {c P : Addr} {pos : Pos} (TB : TabB X.base X.mg c P) (hcode : X.env.code = .ref c) (hq : F.qual = X.env.qual ++ "<lambda>") (hd : F.dfl = []) (hdef : defaultsOf F.params X.env = ([], []))
    (hfree : ∀ y ∈ F.scope.names, y.2 = .free → ∃ c, X.env.cells.lookup y.1 = some c) : PE X (.Lambda F.params F.body F.scope pos) (tLamE P F (cloFrom X.env.cells F.scope.names [])) := by
  refine ⟨fun pins s σ H Q I h => ?_⟩
  obtain ⟨ps, hT, h⟩ := h
  refine PySem.W.kla_eval hdef ?_
  rw [makeFunction_eq]
  simp only [List.zip_nil_right, List.filterMap_nil, List.isEmpty_nil, if_true, pure_bind]
  rw [← hq]
  refine lam_tail I TB hcode hq hT hfree fun f c' H1 s' I1 k1 k2 e1 e2 e3 e4 e5 => ?_
  exact ⟨.ref f, H1, I1, rfl, h H1 f c' .none ⟨k1, k2, e1, e2, e3, e4, e5, .inl ⟨hd, rfl⟩⟩⟩
theorem pe_lam1 {F : LamC} {c P : Addr} {pos dpos : Pos} {i : Int} {j : Nat} (TB : TabB X.base X.mg c P) (hcode : X.env.code = .ref c) (hq : F.qual = X.env.qual ++ "<lambda>") (hd : F.dfl = [.int i]) (hpd : F.params.defaults = [.Constant (.int i) j dpos]) (hk0 : F.params.kw_defaults = [])
    (hfree : ∀ y ∈ F.scope.names, y.2 = .free → ∃ c, X.env.cells.lookup y.1 = some c) : PE X (.Lambda F.params F.body F.scope pos) (tLamE P F (cloFrom X.env.cells F.scope.names [])) := by
  refine ⟨fun pins s σ H Q I h => ?_⟩
  obtain ⟨ps, hT, h⟩ := h
  refine PySem.W.kdv_lam (by rw [hpd]; rfl) hk0 ?_
  rw [hpd]
  refine PySem.W.kdv_all1 (wpAny_mono ((pe_int (X := X) (i := i) (j := j) (pos := dpos)).run pins s σ H (fun v H1 => v = .int i ∧ H1 = H) I ⟨rfl, rfl⟩) (fun u s1 hu => PySem.W.kdv_all0 ?_) fun _ _ x => x)
  obtain ⟨v, H1, I1, r1, ev, eH⟩ := hu
  subst ev eH
  rw [makeFunction_eq]
  simp only [List.zip_nil_right, List.filterMap_nil, List.isEmpty_nil, if_true, pure_bind, List.isEmpty_cons, Bool.false_eq_true, if_false]
  refine wpAny_bind (wpAny_newTextTuple ?_)
  have nT : H1 s1.heap.objs.size = none := I1.hok.fresh (Nat.le_refl _)
  have I2 : Inv X pins σ (upd H1 s1.heap.objs.size (.tup [.int i])) { s1 with heap := s1.heap.push (PySem.W.kdv_tup [u]) } := I1.laid (t' := s1.toks) (a := s1.heap.objs.size) (fun b u e => Heap.get?_push_of_some _ e) (Nat.le_refl _)
    ⟨by show 1 ≤ sizeLine; rw [sizeLine_eq]; omega, [u], .cons r1 .nil, ⟨_, Heap.get?_push_size _ rfl, rfl, 0, rfl⟩⟩
  have kT : ∀ b o, H1 b = some o → upd H1 s1.heap.objs.size (.tup [.int i]) b = some o := fun b o e => by
    rw [upd_ne (ne_of_none e nT)]
    exact e
  have hT2 : TbWf (upd H1 s1.heap.objs.size (.tup [.int i])) P F.qual ps := ⟨kT _ _ hT.1, hT.2.1, fun p cv hcv => let ⟨c, z1, z2⟩ := hT.2.2 p cv hcv; ⟨c, z1, kT _ _ z2⟩⟩
  have nPt : P ≠ s1.heap.objs.size := ne_of_none hT.1 nT
  rw [← hq]
  refine lam_tail I2 TB hcode hq hT2 hfree fun f c' H3 s' I3 k1 k2 e1 e2 e3 e4 e5 => ?_
  refine ⟨.ref f, H3, I3, rfl, h H3 f c' (.ref s1.heap.objs.size) ⟨fun b o e n => k1 b o (kT b o e) n, fun b e => NdefX.upd_none (k2 b e), e1, NdefX.upd_none e2, e3, e4.imp NdefX.upd_none id, e5, .inr ⟨by rw [hd]; simp, s1.heap.objs.size, rfl, ?_, nT⟩⟩⟩
  rw [hd]
  exact k1 _ _ upd_same (Ne.symm nPt)
end
/-- the memory's thing at ti is the table -/
noncomputable def mLam (ti : Nat) (P : Addr) (F : LamC) (cl : List (Str × Addr)) : SE := fun ρ M => match M[ti]? with
  | some (.tbl P' q) => if P' = P ∧ q = F.qual then .ok (.lam F cl) M else .bad
  | _ => .bad
theorem snd_lam {K : PySem.W.Frag} {W : WX} {ti : Nat} {P : Addr} {F : LamC} {cl : List (Str × Addr)} : Snd K W (tLamE P F cl) (mLam ti P F cl) := fun hid σ ρ M ad H Q k r h => by
  unfold mLam at h
  cases em : M[ti]? with
  | none =>
    rw [em] at h
    exact h.elim
  | some o =>
    cases o with
    | tbl P' q =>
      rw [em] at h
      have h' : (pV K hid Q (wx W σ)).P M ad H (if P' = P ∧ q = F.qual then .ok (.lam F cl) M else .bad) := h
      by_cases c : P' = P ∧ q = F.qual
      · rw [if_pos c] at h'
        obtain ⟨e1, e2⟩ := c
        subst e1 e2
        have lt : ti < ad.length := by
          rw [k.len]
          exact (List.getElem?_eq_some_iff.mp em).1
        have ea : ad[ti]? = some ad[ti] := List.getElem?_eq_getElem lt
        obtain ⟨eP, ps, p1, p2, p3⟩ := k.ob ti _ _ em ea
        have live : lvI M ti := ⟨_, em, by intro z; cases z⟩
        have badP : badOf hid M ad P' := .inr ⟨ti, live, by rw [ea, eP]⟩
        refine ⟨ps, ⟨by rw [← eP]; exact p1, p2, fun pos cv hcv => let ⟨c, z1, z2, _⟩ := p3 pos cv hcv; ⟨c, z1, z2⟩⟩, fun H' f c dv N => ?_⟩
        have nP : ∀ a, ¬ badOf hid M ad a → a ≠ P' := fun a n e => n (e ▸ badP)
        have l : Le (wd hid M ad H) (wd hid M ad H') := ⟨⟨[], by simp⟩, fun a o e n => ⟨N.keep a o e (nP a n), n⟩⟩
        have same : ∀ a, H a ≠ none → a ≠ P' → H' a = H a := fun a n e => by
          cases q : H a with
          | none => exact absurd q n
          | some o => exact N.keep a o q e
        have hidP : ¬ hid P' := fun z => k.nh ti P' live (by rw [ea, eP]) z
        have dom : ∀ a, H a ≠ none → H' a ≠ none := fun a n e => n (N.fresh a e)
        have f1 : Fr hid M ad H M ad H' := ⟨l, fun a z => same a (k.hh a z) (fun e => hidP (e ▸ z)), dom⟩
        have nbc : ¬ badOf hid M ad c := by
          rcases N.cold with z | ⟨pos, z⟩
          · exact k.fresh z
          · obtain ⟨c2, y1, _, y3⟩ := p3 pos _ z
            cases y1
            exact y3
        obtain ⟨ps', t1, t2, t3⟩ := N.tab
        have k1 : Ok K hid M ad H' := ⟨k.len, k.inj, k.nh, fun i o a e1 e2 => by
            by_cases hd : o = .dead
            · subst hd
              trivial
            · have li : lvI M i := ⟨o, e1, hd⟩
              by_cases ei : a = P'
              · have : i = ti := k.inj i ti a li live e2 (by rw [ea, ei, eP])
                subst this
                rw [em] at e1
                cases e1
                refine ⟨ei, ps', by rw [ei]; exact t1, t2, fun pos cv hcv => ?_⟩
                rcases t3 pos cv hcv with z | ⟨pos', z⟩
                · exact ⟨c, z, N.co, nbc⟩
                · obtain ⟨c2, y1, y2, y3⟩ := p3 pos' cv z
                  exact ⟨c2, y1, N.keep _ _ y2 (nP _ y3), y3⟩
              · obtain ⟨u, z⟩ := k.some li e2
                exact MOk.le l (same a (by rw [z]; simp) ei) (k.ob i o a e1 e2), fun a z => dom a (k.hh a z)⟩
        refine h' (.ref f) ad H' f1 k1 ?_
        simp only [Rp]
        refine ⟨f, c, dv, rfl, N.fn, k.fresh N.fnew, N.co, nbc, N.dfl.imp id fun ⟨ne, t, y1, y2, y3⟩ => ⟨ne, t, y1, y2, k.fresh y3⟩⟩
      · rw [if_neg c] at h'
        exact h'.elim
    | _ =>
      rw [em] at h
      exact h.elim
end LM

end
section
set_option maxHeartbeats 4000000
namespace LM
open PySem PySem.Spec PySem.Calls PyProof.Rows L2 DL SU NdefX
/-- of the class C, seen from D (its own): super().__init__ is ValueError's -/
structure SupEx (K : PySem.W.Frag) (D C : Addr) : Prop where
  sub : PySem.W.mroIn K C (.ref D) = some true
  at_ : PySem.W.ks_superIn K C D "__init__" = some (some (.builtin "ValueError.__init__"))
  ve : PySem.W.subIn K (.ref C) (.type "ValueError") = some true
section
variable {X : Cx} {D : Addr} {x0 : Str} {pins : List (Addr × Obj)} {σ : L2.St} {H : Hp} {s : Shared} {body : List Stmt} {E : Value → Shared → Prop}
theorem superE_get {x C : Addr} {i0 : Nat} {p0 p1 : Pos} {whole : Sem Value} {pl : Sem Bool} {Q : Value × List Value → Shared → Prop} (S : SupX X D x0) (hN : X.N[i0]? = some x0)
    (I : Inv X pins σ H s) (hσ : σ[i0]? = some (some (.ref x))) (hx : H x = some (exo x C none)) (M : SupEx X.K D C)
    (h : ∀ q s', H q = none → Inv X ((q, PySem.W.kxs_mw "ValueError.__init__" x) :: pins) σ H s' → Q (.ref q, []) s') :
    _root_.PySem.wpAt (model X.prog X.w) X.A (.func body X.env) (attributeBase (.Call (.Name "super" p0) [] [] p1) "__init__" X.env whole) (fun ov s1 => wpAny (model X.prog X.w) X.A (getMethod ov "__init__" pl) Q E s1) E s := by
  obtain ⟨f, oc, od, fd, osl, ar, hf1, hf2, hf3, hf4⟩ := S.fn
  obtain ⟨cda, ccl, cdd, vs, ccs, file, tf, hc1, hc2, hc3, hc4⟩ := S.code
  obtain ⟨cc, cl, cld, csl, hl1, hl2⟩ := S.cell
  obtain ⟨cdD, hD⟩ := S.cls
  have KX := I.kIn
  subst hf4
  obtain ⟨t1, ho⟩ := exo_at I.hok hx
  have J : PySem.W.InstAt s.heap x _ C none := ⟨ho, rfl, rfl, trivial⟩
  obtain ⟨ml, hns, hlk⟩ := I.loc
  obtain ⟨u, ru, lk⟩ := hlk i0 ar.arg (.ref x) hN hσ (.inl S.k0)
  have eu : u = .ref x := ru
  subst eu
  have hv : ml ar.arg = some (.ref x) := by
    rcases lk with ⟨_, e⟩ | ⟨e, _⟩
    · exact e
    · rw [S.k0] at e
      rcases e with e | e <;> cases e
  obtain ⟨oD, hD1, hD2⟩ : ∃ oD, s.heap.get? D = some oD ∧ oD.data = .cls cdD := by
    unfold PySem.W.clsIn at hD
    split at hD
    · rename_i c d cd' sl ho
      cases hD
      exact ⟨_, KX _ _ ho, rfl⟩
    · cases hD
  obtain ⟨mb, hb1, hb2⟩ := I.mod.blt
  refine ks_wpAt_super_base (env := X.env) S.ks S.kc (by decide) hf1 (KX _ _ hf2) rfl hf3 hc1 (KX _ _ hc2) rfl hc3 hc4 S.top ?_
  refine PySem.W.ks_loadName_global I.ok.kind S.ks (Calls.loadGlobal_builtin (by rw [I.ok.glob]; exact I.mod.glob.keeps I.bk) S.mgs (by rw [I.ok.blt]; exact hb1.keeps I.bk) ((hb2 _ (by decide +kernel)).trans boot_super) ⟨rfl, ?_⟩)
  refine wpAny_loadName_free I.ok.kind S.kc hl1 ⟨_, KX _ _ hl2, rfl⟩ ?_
  refine wpAny_loadName_local I.ok.kind S.k0 hns hv ?_
  obtain ⟨hh, g0, d0, t0, os0⟩ := s
  refine ks_wpAny_isType_cls hD1 hD2 ⟨rfl, ?_⟩
  refine ks_wpAny_call_super hD1 hD2 J.at_ J.cls (fun c e => by cases e) (PySem.W.looks_mroIn KX M.sub) (fun h' e k => ?_)
  have I' : Inv X pins σ H ⟨h', g0, d0, t0, os0⟩ := I.kept k
  have KX' := I'.kIn
  have J' : PySem.W.InstAt h' x _ C none := ⟨k _ _ ho, rfl, rfl, trivial⟩
  have hm := M.at_
  cases hc : PySem.W.clsIn X.K C with
  | none => unfold PySem.W.ks_superIn at hm; rw [hc] at hm; cases hm
  | some cd =>
    unfold PySem.W.ks_superIn at hm
    rw [hc] at hm
    refine PySem.W.kxs_getMethod PySem.W.kxs_ValueError e (PySem.W.looks_opaque KX' S.any) (l₀ := cd.mro) ?_ rfl KX' hm (J'.type.andThen (PySem.W.looks_subIn KX' M.ve)) (PySem.W.ks_ne KX J hc) (by decide) ?_
    · exact fun A Q E s k q => wpAny_bind ((PySem.W.looks_clsIn KX' hc) A _ E s k (wpAny_pure q))
    · have nq : H h'.objs.size = none := I'.hok.fresh (Nat.le_refl _)
      have I2 : Inv X pins σ H ⟨h'.push (PySem.W.kxs_mw "ValueError.__init__" x), g0, d0, t0 + 1, os0⟩ := I'.kept fun b o e => Heap.get?_push_of_some _ e
      refine h h'.objs.size _ nq ⟨I2.ok, I2.os, I2.bare, I2.base, I2.loc, I2.cell, I2.free, I2.freeC, fun p hp => ?_, I2.hok, I2.len⟩
      rcases List.mem_append.mp hp with z | z
      · exact I2.pin p (List.mem_append_left _ z)
      · rcases List.mem_cons.mp z with e | z
        · subst e
          refine ⟨Heap.get?_push_size _ rfl, nq, Nat.ne_of_gt I'.lt, I'.nofs (Nat.le_refl _), fun v z => ?_⟩
          cases z
        · exact I2.pin p (List.mem_append_right _ z)
theorem inv_unpin1 {p : Addr × Obj} (I : Inv X (p :: pins) σ H s) : Inv X pins σ H s :=
  ⟨I.ok, I.os, I.bare, I.base, I.loc, I.cell, I.free, I.freeC, fun q hq => I.pin q ((List.mem_append.mp hq).elim (fun z => List.mem_append_left _ z) fun z => List.mem_append_right _ (List.mem_cons_of_mem _ z)), I.hok, I.len⟩
/-- the bound built-in __init__ is called -/
theorem initE_call {x C u : Addr} {us : List Value} {Q : Value → Shared → Prop} (T : OexC X.K C) (I : Inv X pins σ H s) (hu : s.heap.get? u = some (PySem.W.kxs_mw "ValueError.__init__" x)) (e : H x = some (exo x C none)) (hl : us.length ≤ sizeLine) (h : ∀ s', Inv X pins σ H s' → Q .none s') :
    wpAny (model X.prog X.w) X.A (call (.ref u) us) Q E s := by
  obtain ⟨nm, q, N, bs, bm, sn, sub, ab, col, dd, k0, k1, k2, k3, k5, hC, hbm⟩ := T.cls
  obtain ⟨t1, ho⟩ := exo_at I.hok e
  have hC' := I.kIn _ _ hC
  obtain ⟨hh, g, d, tk, os⟩ := s
  refine wpAny_call (codeAny_of_tree ?_)
  show wpAny _ X.A.in1 (callAny (.ref u) ⟨us, []⟩) _ _ _
  simp only [callAny]
  refine wpAny_bind (wpAny_load hu ?_)
  simp only [PySem.W.kxs_mw, show (Value.type "method-wrapper" == Value.type "method" || Value.type "method-wrapper" == Value.type "builtin_function_or_method" || Value.type "method-wrapper" == Value.type "method-wrapper") = true by decide, if_true]
  refine PySem.W.KFB.if_so (by decide) ?_
  refine wpAny_bind (PySem.W.check_bound_init F.excBase_ValueError.toExcCallFacts hC' ho rfl ?_)
  refine wpAny_bind (wpAny_pure (wpAny_pure ?_))
  refine ⟨plainId_quiet F.excBase_ValueError.init.plain _, codeAny_builtin F.excBase_ValueError.initEntry ?_⟩
  refine PySem.W.exc_init_tree (cls := .ref C) (t0 := t1) (dv := none) (c2 := .none) (c3 := .none) (b4 := .bool false) ho hl fun h' k hx _ => ?_
  have J := I.write (t' := tk) (x := x) (e := x) (o := exo x C none) (by rw [e]; exact True.intro) (.inl rfl) k ⟨_, hx⟩ (exo_ok hx)
  have eu : upd H x (exo x C none) = H := by
    funext b
    by_cases hb : b = x
    · rw [hb, upd_same, e]
    · rw [upd_ne hb]
  rw [eu] at J
  exact h _ J
/-- super().__init__(e, ..) -/
def tSupI (K : PySem.W.Frag) (D : Addr) (i0 : Nat) (ta : TA) : TE := fun σ H Q => ∃ a C, σ[i0]? = some (some (.ref a)) ∧ H a = some (exo a C none) ∧ OexC K C ∧ SupEx K D C ∧ ta σ H fun vs H1 => vs.length ≤ 1000 ∧ H1 a = some (exo a C none) ∧ Q .non H1
theorem pea_supI {b : List Stmt} {i0 : Nat} {e : Expr} {es : List Expr} {ta : TA} {p0 p1 apos pos : Pos} (S : SupX X D x0) (hN : X.N[i0]? = some x0) (ha : PA X (e :: es) ta)
    {pl : Sem Bool} (hev : eval (.Call (.Attribute (.Call (.Name "super" p0) [] [] p1) "__init__" apos) (e :: es) [] pos) X.env = (do
      let ov ← attributeBase (.Call (.Name "super" p0) [] [] p1) "__init__" X.env (eval (.Call (.Name "super" p0) [] [] p1) X.env)
      standAt apos.atName
      let (f, first) ← holding [ov] (getMethod ov "__init__" pl)
      callWith pos f first (backTo pos (starEach (e :: es) X.env)) (backToKw pos (keywordEach [] X.env))) := by rfl)
    (he : starEach (e :: es) X.env = (false, eval e X.env) :: starEach es X.env := by rfl) (hpl : (backTo pos (starEach es X.env)).any (·.1) = false := by rfl) :
    PEA X b (.Call (.Attribute (.Call (.Name "super" p0) [] [] p1) "__init__" apos) (e :: es) [] pos) (tSupI X.K D i0 ta) := by
  refine ⟨fun pins s σ H Q I h => ?_⟩
  obtain ⟨x, C, e1, e2, T, M, h⟩ := h
  refine sup_node (superE_get S hN I e1 e2 M fun q s1 hq I1 => ?_) hev
  have hq' : s1.heap.get? q = some (PySem.W.kxs_mw "ValueError.__init__" x) := (I1.pin (q, _) (List.mem_append_right _ (List.mem_cons_self ..))).1
  show wpAny _ _ (callWith pos (.ref q) [] (backTo pos (starEach (e :: es) X.env)) []) _ _ _
  rw [he]
  refine PySem.W.kxs_callWith (i := "ValueError.__init__") (x := x) (u := q) (by show (false || (backTo pos (starEach es X.env)).any (·.1)) = false; rw [hpl]; rfl) (evalArgs_plain ?_)
  have hap := ha.run pos _ s1 σ H _ I1 h
  rw [he] at hap
  refine thn hap fun us s2 ⟨vs, H2, I2, r2, hl, ea, q2⟩ => ?_
  have hq2 : s2.heap.get? q = some (PySem.W.kxs_mw "ValueError.__init__" x) := (I2.pin (q, _) (List.mem_append_right _ (List.mem_cons_self ..))).1
  refine ⟨hq2, initE_call (us := us) T I2 hq2 ea (by rw [← r2.length, sizeLine_eq]; omega) fun s3 I3 => ?_⟩
  exact ⟨.non, H2, inv_unpin1 I3, rfl, q2⟩
end
/-- the fields that the exception's dict holds, the latest first -/
def xFs (code : Str) : List Str → List V → List (Str × V) → List (Str × V)
  | f :: fs, v :: vs, acc => xFs code fs vs ((f, v) :: acc)
  | _, _, acc => acc
def exFs (code : Str) (fs : List Str) (vs : List V) : List (Str × V) := xFs code fs vs [("code", .str code)]
structure ExC (K : PySem.W.Frag) (C : Addr) (fs : List Str) : Prop where
  oex : OexC K C
  sup : SupEx K C C
  no : ∀ f ∈ (("code" : Str) :: fs), PySem.W.findIn K (.ref C) f = some none
/-- the promise: self is a new exception object -/
def spX (K : PySem.W.Frag) (C : Addr) (code : Str) (fs : List Str) : Sp := fun vs H Q _ => ∃ a xs, vs = .ref a :: xs ∧ xs.length = fs.length ∧ H a = some (exo a C none) ∧ ∀ d H', H d = none → d ≠ a → H' d = some (exd d (exFs code fs xs)) → H' a = some (exo a C (some d)) → (∀ b, b ≠ a → b ≠ d → H' b = H b) → Q .non H'
theorem spX_len {K : PySem.W.Frag} {C : Addr} {code : Str} {fs : List Str} {vs : List V} {H : Hp} {Q : VK} {E : XK} (h : spX K C code fs vs H Q E) : vs.length = fs.length + 1 := by
  obtain ⟨a, xs, e, l, _⟩ := h
  rw [e, List.length_cons, l]
/-- self.f = its parameter, one after another: slots 1, 2, .. -/
def tFlds (K : PySem.W.Frag) : List Str → Nat → TS
  | [], _ => tNext
  | [f], i => tOst K f (tVar 0) (tVar i)
  | f :: fs, i => tSeq (tOst K f (tVar 0) (tVar i)) (tFlds K fs (i + 1))
section
variable {K : PySem.W.Frag} {C : Addr} {code : Str}
theorem flds_run {fs0 : List Str} (T : ExC K C fs0) {a d : Addr} {σ : L2.St} {D : Ends} (hs : σ[0]? = some (some (.ref a))) : ∀ (fs : List Str) (i : Nat) (xs : List V) (acc : List (Str × V)) (H : Hp), (∀ f ∈ fs, f ∈ fs0) → xs.length = fs.length → (∀ j v, xs[j]? = some v → σ[i + j]? = some (some v)) → acc.length + fs.length ≤ 900 → d ≠ a →
    H a = some (exo a C (some d)) → H d = some (exd d acc) → (∀ H', H' d = some (exd d (xFs code fs xs acc)) → H' a = some (exo a C (some d)) → (∀ b, b ≠ a → b ≠ d → H' b = H b) → D.nx σ H') → tFlds K fs i D σ H
  | [], i, xs, acc, H, _, hl, hx, hn, nda, ea, ed, q => by
    match xs, hl with
    | [], _ => exact q H ed ea fun _ _ _ => rfl
  | [f], i, xs, acc, H, hf, hl, hx, hn, nda, ea, ed, q => by
    match xs, hl with
    | [v], _ =>
      refine ⟨v, hx 0 v rfl, .ref a, hs, a, C, rfl, T.oex, T.no f (List.mem_cons_of_mem _ (hf f (by simp))), .inr ⟨d, acc, ea, ed, by simp at hn; omega, ?_⟩⟩
      refine q _ upd_same ?_ fun b h1 h2 => upd_ne h2
      rw [upd_ne (Ne.symm nda)]
      exact ea
  | f :: g :: fs, i, xs, acc, H, hf, hl, hx, hn, nda, ea, ed, q => by
    match xs, hl with
    | v :: xs, hl =>
      refine ⟨v, hx 0 v rfl, .ref a, hs, a, C, rfl, T.oex, T.no f (List.mem_cons_of_mem _ (hf f (by simp))), .inr ⟨d, acc, ea, ed, by simp at hn; omega, ?_⟩⟩
      refine flds_run T (D := D) hs (g :: fs) (i + 1) xs ((f, v) :: acc) _ (fun y hy => hf y (List.mem_cons_of_mem _ hy)) (by simpa using hl) (fun j v' e => ?_) (by simp at hn ⊢; omega) nda ?_ upd_same fun H' h1 h2 h3 => q H' h1 h2 fun b b1 b2 => (h3 b b1 b2).trans (upd_ne b2)
      · have := hx (j + 1) v' (by simpa using e)
        rw [show i + 1 + j = i + (j + 1) by omega]
        exact this
      · rw [upd_ne (Ne.symm nda)]
        exact ea
/-- the reading of such an __init__'s body -/
theorem initX_run {fs : List Str} {D : Addr} (T : ExC K C fs) (hD : D = C) {vs : List V} {H : Hp} {Q : VK} {E : XK} {N : List Str} {r : List (Option V)} (hN : fs.length + 2 ≤ N.length) (h0 : fs.length ≤ 800) (h : spX K C code fs vs H Q E) :
    (tSeq (tDrop (tSupI K D 0 (tCons (tC (.str code)) tNil))) (tSeq (tOst K "code" (tVar 0) (tC (.str code))) (tFlds K fs 1))) { nx := fun _ H' => Q .non H', rt := Q } (startF N vs r) H := by
  obtain ⟨a, xs, e, hl, ea, q⟩ := h
  subst e hD
  have at_ : ∀ j v, (V.ref a :: xs)[j]? = some v → (startF N (V.ref a :: xs) r)[j]? = some (some v) := fun j v e => by
    unfold startF
    have hj : j < (V.ref a :: xs).length := (List.getElem?_eq_some_iff.mp e).1
    rw [List.getElem?_append_left (by rw [List.length_map]; exact hj), List.getElem?_map, e]
    rfl
  have s0 : (startF N (V.ref a :: xs) r)[0]? = some (some (.ref a)) := at_ 0 _ rfl
  refine ⟨a, D, s0, ea, T.oex, T.sup, ⟨by simp, ea, ?_⟩⟩
  refine ⟨.ref a, s0, a, D, rfl, T.oex, T.no "code" (List.mem_cons_self ..), .inl ⟨ea, fun d nd nda => ?_⟩⟩
  refine flds_run T s0 fs 1 xs [("code", .str code)] _ (fun _ z => z) hl (fun j v e => ?_) (by simp; omega) nda upd_same ?_ fun H' h1 h2 h3 => q d H' nd nda h1 h2 fun b b1 b2 => ?_
  · rw [show 1 + j = j + 1 by omega]
    exact at_ (j + 1) v (by simpa using e)
  · rw [upd_ne nda, upd_same]
  · rw [h3 b b1 b2, upd_ne b1, upd_ne b2]
end

theorem mk_drop {H1 H2 : Hp} {a d : Addr} {C : Addr} {fs : List (Str × V)} (na : H1 a = none) (h3 : ∀ b, b ≠ a → b ≠ d → H2 b = upd H1 a (exo a C none) b) : upd (L2.del H2 a) d (.xd fs) = upd H1 d (.xd fs) := by
  funext b
  by_cases hd : b = d
  · rw [hd, upd_same, upd_same]
  · rw [upd_ne hd, upd_ne hd]
    by_cases ha : b = a
    · rw [ha, L2.del_same, na]
    · rw [L2.del_ne ha, h3 b ha hd, upd_ne ha]
def tRaiseX (K : PySem.W.Frag) (W : WX) (C : Addr) (code : Str) (fs : List Str) (ta : TA) : TS := fun _ σ H => tMkO C (spX K C code fs) [] ta σ H fun cls d H' => W cls d σ H'
/-- what its reading asks of the values -/
theorem raise_ask {K : PySem.W.Frag} {C : Addr} {code : Str} {fs : List Str} {vs : List V} {H1 : Hp} {Q : XK} (hfs : fs.length ≤ 800) (hl : vs.length = fs.length) (q : ∀ d, H1 d = none → Q (.ref C) (some d) (upd H1 d (.xd (exFs code fs vs)))) :
    vs.length ≤ 1000 ∧ ∀ a, H1 a = none → spX K C code fs (.ref a :: (vs ++ [])) (upd H1 a (exo a C none)) (fun v H2 => v = .non ∧ ∃ (d : Addr) (fs : List (Str × V)), H2 a = some (exo a C (some d)) ∧ H2 d = some (exd d fs) ∧ H1 d = none ∧ Q (.ref C) (some d) (upd (L2.del H2 a) d (.xd fs))) (fun _ _ _ => False) := by
  refine ⟨by omega, fun a na => ?_⟩
  rw [List.append_nil]
  refine ⟨a, vs, rfl, hl, upd_same, fun d H' nd nda h1 h2 h3 => ⟨rfl, d, exFs code fs vs, h2, h1, ?_, ?_⟩⟩
  · rw [upd_ne nda] at nd
    exact nd
  · rw [upd_ne nda] at nd
    rw [mk_drop na h3]
    exact q d nd
theorem ps_raiseX {X : Cx} {W : WX} {x code : Str} {C fI : Addr} {k : Nat} {fd : FuncData} {ps fs : List Str} {e : Expr} {es : List Expr} {ta : TA} {p pos pos' : Pos} (hc : X.calm = true) (tk : Takes X W) (T : ExC X.K C fs) (iC : PySem.W.findIn X.K (.ref C) "__init__" = some (some (.ref fI))) (tI : PySem.W.typeIn X.K (.ref fI) = some (.type "function"))
    (F1 : FnOk X.prog X.w X.K X.mg X.base (L2.CX X.prog X.w) k fI fd ps (spX X.K C code fs)) (hr : Room (k + 1) X.A) (hb : Binds X.K fd ps []) (hx : Passes (L2.CX X.prog X.w) X (fun _ _ _ => False)) (hg : Gl X x) (hm : X.mg x = some (.ref C)) (ha : PA X (e :: es) ta)
    (hdb : (x == ("__debug__" : Str)) = false := by decide) (he : starEach (e :: es) X.env = (false, eval e X.env) :: starEach es X.env := by rfl) (hpl : (backTo pos (starEach es X.env)).any (·.1) = false := by rfl) :
    PS X (.Raise (some (.Call (.Name x p) (e :: es) [] pos)) none pos') (tRaiseX X.K W C code fs ta) :=
  ps_raise hc tk (pmk_oex (pos := pos) (p := p) (x := x) T.oex iC tI F1 hr hb .nil hx hg hm ha hdb he hpl)
end LM

end
section
set_option maxHeartbeats 4000000
namespace LM
open PySem PySem.Spec PySem.Calls PyProof.Rows L2 DL SU NdefX
section
variable {K : PySem.W.Frag} {W : WX}
def exNs : List Str → List Str → List Str
  | f :: fs, acc => exNs fs (f :: acc)
  | [], acc => acc
def exDs : List Str → List D → List D → List D
  | _ :: fs, d :: ds, acc => exDs fs ds (d :: acc)
  | _, _, acc => acc
theorem xFs_ns (code : Str) : ∀ (fs : List Str) (vs : List V) (acc : List (Str × V)), vs.length = fs.length → (xFs code fs vs acc).map (·.1) = exNs fs (acc.map (·.1))
  | [], [], acc, _ => rfl
  | f :: fs, v :: vs, acc, h => xFs_ns code fs vs ((f, v) :: acc) (by simpa using h)
  | [], _ :: _, _, h => by simp at h
  | _ :: _, [], _, h => by simp at h
theorem xFs_ds {Wd' : Wd} (code : Str) : ∀ (fs : List Str) (ds : List D) (vs : List V) (acc : List (Str × V)) (da : List D), RpL K Wd' ds vs → RpL K Wd' da (acc.map (·.2)) → RpL K Wd' (exDs fs ds da) ((xFs code fs vs acc).map (·.2))
  | [], ds, vs, acc, da, _, h => by simpa [exDs, xFs] using h
  | f :: fs, [], vs, acc, da, r, h => by
    have e := r.nilI
    subst e
    simpa [exDs, xFs] using h
  | f :: fs, d :: ds, vs, acc, da, r, h => by
    obtain ⟨v, vr, e, r1, r2⟩ := r.consI
    subst e
    exact xFs_ds code fs ds vr ((f, v) :: acc) (d :: da) r2 (RpL.cons r1 h)
/-- raise C(e, ..) -/
def mRaise (c code : Str) (fs : List Str) (ma : SA) : SS := fun ρ M => liftE (ma ρ M) ρ fun ds M1 => if ds.length = fs.length then .ok (.ex ρ c (exNs fs ["code"]) (exDs fs ds [.str code])) M1 else .bad
theorem snd_raise {c code : Str} {fs : List Str} {ta : TA} {ma : SA} (hfs : fs.length ≤ 800) (ha : SndA K W ta ma) : SndS K W (tRaiseX K W (He.ga K c) code fs ta) (mRaise c code fs ma) := fun hid σ ρ M ad H E st q => by
  refine ha.stepS st q fun ds M1 xs ad1 H1 f1 s1 rx h1 => ?_
  by_cases c0 : ds.length = fs.length
  · rw [if_pos c0] at h1
    refine raise_ask (K := K) (C := He.ga K c) (code := code) (H1 := H1) (Q := fun cls d H' => W cls d σ H') hfs (by rw [rx.len]; exact c0) fun d nd => ?_
    have fr : Fr (hS hid ρ σ) M1 ad1 H1 M1 ad1 (upd H1 d (.xd (exFs code fs xs))) := Fr.new nd (s1.ok.fresh nd)
    have k2 := Ok.new (u := .xd (exFs code fs xs)) s1.ok nd
    refine h1 σ d (exFs code fs xs) ad1 _ (FrG.of fr fun _ z => .inl z) (s1.fr fr k2) ?_ ⟨upd_same, s1.ok.fresh nd⟩ ?_
    · exact xFs_ns code fs xs _ (by rw [rx.len]; exact c0)
    · exact xFs_ds code fs ds xs [("code", .str code)] [.str code] (RpL.unhid (fun _ z => .inl z) (RpL.le fr.le _ rx)) (RpL.cons (rp_str _) RpL.nil)
  · rw [if_neg c0] at h1
    exact h1.elim
end

open L2H in
structure FnQ (P : Program) (w : World) (K : PySem.W.Frag) (mg : Str → Option Value) (base : Heap) (k : Nat) (f : Addr) (fd : FuncData) (ps : List Str) (sp : Sp) : Prop where
  len : ∀ vs H Q E, sp vs H Q E → vs.length = ps.length
  run : ∀ (A : Around) (outer : List Env) (s : Shared) (H : Hp) (args : Args) (us : List Value) (vs : List V) (Q : VK) (E : XK), RoomH k A → Env0 P w K mg base A outer s H → BindsTo s fd args (ps.zip us) → Vals vs us → sp vs H Q E →
    codeAny (model P w) A (.call (.ref f) args) (CR (L2.CX P w) outer P w H s Q E) s
def cxQ (P : Program) (w : World) (K : PySem.W.Frag) (mg : Str → Option Value) (base : Heap) (N : List Str) (qual : Str) (scope : Scope) (f : Addr) (cd : Value) (A : Around) (outer : List Env) (s : Shared) (H : Hp) (E : XK) : Cx :=
  { cxOf (L2.CX P w) P w K mg base N qual scope f cd A outer s H E with calm := false }
open L2H in
theorem inv_startQ {P : Program} {w : World} {K : PySem.W.Frag} {mg : Str → Option Value} {base : Heap} {N ps : List Str} {qual : Str} {scope : Scope} {f : Addr} {cd : Value} {A : Around} {outer : List Env} {s s1 : Shared} {H : Hp} {E : XK} {us : List Value} {vs : List V}
    (S : FnScope N ps scope) (e0 : Env0 P w K mg base A outer s H) (hl : vs.length = ps.length) (r : Vals vs us)
    (x : InCallC s s.heap.objs.size (bindL (envOfC qual scope s.heap.objs.size f cd).kindOf (ps.zip us) fun _ => none) (cellsFrom (s.heap.objs.size + 1) scope.names []) (bindC (envOfC qual scope s.heap.objs.size f cd).kindOf (ps.zip us) fun _ => none) s1) :
    Inv (cxQ P w K mg base N qual scope f cd A outer s H E) [] (L2.start N vs) H s1 := by
  have hpl : ps.length ≤ N.length := by have := congrArg List.length S.pre; rw [List.length_take] at this; omega
  obtain ⟨h1, tk, rfl, hk⟩ := x.done
  have noA : ∀ b : Addr, b ∉ (cxQ P w K mg base N qual scope f cd A outer s H E).ex := fun b z => absurd (show b ∈ ([] : List Addr) from z) (by simp)
  refine ⟨⟨e0.mod, S.kind, rfl, rfl, Nat.le_refl _, fun y z c h1 h2 => ?_, fun y hy => ?_, fun y c _ h => ?_, (fun z => Bool.noConfusion (show false = true from z)), Around.frames_deeper e0.frames, .inr ⟨rfl, rfl⟩, fun b z => absurd z (noA b), e0.bs, e0.bsz, fun b _ _ => noA b, fun b z => absurd z (noA b), e0.funs, e0.frf⟩,
    rfl, e0.bare, Un.kept hk, ⟨_, x.toInCall.ns, fun i y v h1 h2 h3 => ?_⟩, fun y c h => ⟨_, x.cell y c h⟩, e0.hok.fresh (Nat.le_refl _), fun y c h => ?_, fun q hq => ?_, e0.hok.kept hk, ?_⟩
  · exact name_of_addr x.apart (PySem.mem_of_lookup h1) (PySem.mem_of_lookup h2)
  · have hy : scope.names.lookup y = some .cell ∨ scope.names.lookup y = some .free := hy
    rcases hy with hy | hy
    · exact cell_has hy
    · exact absurd rfl (S.nofree _ (PySem.mem_of_lookup hy))
  · exact Nat.le_of_lt (x.above y c (PySem.mem_of_lookup h))
  · have hi : i < vs.length := by
      unfold L2.start at h2
      by_cases hi : i < vs.length
      · exact hi
      · rw [List.getElem?_append_right (by simpa using hi)] at h2
        rw [List.getElem?_replicate] at h2
        split at h2 <;> cases h2
    have ha : vs[i]? = some v := by
      unfold L2.start at h2
      rw [List.getElem?_append_left (by simpa using hi), List.getElem?_map] at h2
      cases e : vs[i]? with
      | none => rw [e] at h2; cases h2
      | some a => rw [e] at h2; cases h2; rfl
    obtain ⟨u, hu, rv⟩ := r.get ha
    have hp : ps[i]? = some y := by
      rw [← S.pre, List.getElem?_take_of_lt (by omega)]; exact h1
    have ndP : ps.Nodup := by rw [← S.pre]; exact S.nd.sublist (List.take_sublist _ _)
    refine ⟨u, rv, ?_⟩
    rcases S.par y (List.mem_of_getElem? hp) with k | k
    · exact .inl ⟨k, bindL_get ndP hp hu k⟩
    · obtain ⟨c, e⟩ := cell_has (n := s.heap.objs.size + 1) k
      refine .inr ⟨.inl k, c, e, ?_⟩
      have q := x.cell y c e
      rw [bindC_get ndP hp hu (by show scope.names.lookup y ≠ _; rw [k]; decide)] at q
      exact q
  · exact e0.hok.fresh (Nat.le_of_lt (x.above y c (PySem.mem_of_lookup h)))
  · exact absurd (show q ∈ ([] : List (Addr × Obj)) ++ ([] : List (Addr × Obj)) from hq) (by simp)
  · unfold L2.start
    show _ = N.length
    rw [List.length_append, List.length_map, List.length_replicate]
    omega
open L2H in
theorem fn_ofQ {P : Program} {w : World} {K : PySem.W.Frag} {mg : Str → Option Value} {base : Heap} {k : Nat} {f : Addr} {x qual : Str} {params : Arguments} {body : List Stmt} {scope : Scope} {dvs : List V} {kws : List (Str × V)} {fd : FuncData} {N ps : List Str} {sp : Sp}
    (F : FunD K x qual params body scope dvs kws f fd) (S : FnScope N ps scope) (len : ∀ vs H Q E, sp vs H Q E → vs.length = ps.length)
    (hbody : ∀ (cdv : Value) (A : Around) (outer : List Env) (s : Shared) (H : Hp) (vs : List V) (Q : VK) (E : XK), RoomH k (A.deeper (envOfC qual scope s.heap.objs.size f cdv)) → sp vs H Q E →
      ∃ t, PSs (cxQ P w K mg base N qual scope f cdv A outer s H E) body t ∧ t { nx := fun _ H' => Q .non H', rt := Q } (L2.start N vs) H) : FnQ P w K mg base (k + 1) f fd ps sp := by
  obtain ⟨oc, od, dV, kV, doc, pm, an, cdv, ct, osl, rfl, lk, hcd, _, _⟩ := F.ex
  refine ⟨len, fun A outer s H args us vs Q E hr e0 hb r hsp => ?_⟩
  have hl := len _ _ _ _ hsp
  have KX : K.In s.heap := e0.mod.kin.keeps fun b o e => (e0.bs b o e).1
  have lim : s.heap.NoLimit := e0.mod.nolimit.keeps fun b o e => (e0.bs b o e).1
  have hkind : ∀ y ∈ ps.zip us, scope.names.lookup y.1 = some .local ∨ (scope.names.lookup y.1 = some .cell ∧ ((cellsFrom (s.heap.objs.size + 1) scope.names []).lookup y.1).isSome = true) := fun ⟨n, v⟩ hy => by
    rcases S.par n (List.of_mem_zip hy).1 with q | q
    · exact .inl q
    · exact .inr ⟨q, PySem.W.cellsFrom_some _ _ _ (.inl q)⟩
  refine codeAny_call_function hr.depth (KX _ _ lk) rfl S.co S.gen rfl (PySem.W.codeRec_of KX hcd) (hb _ _ _ _ ?_)
  refine wpAny_newFunctionEnv_cells S.kind hkind fun env he s1 x => ?_
  subst he
  refine ⟨lim.keeps x.toInCall.keep, codeAny_func ?_⟩
  obtain ⟨t, ht, hq⟩ := hbody cdv A outer s H vs Q E (hr.deeper _) hsp
  have I : Inv (cxQ P w K mg base N qual scope f cdv A outer s H E) [] (L2.start N vs) H s1 := inv_startQ S e0 hl r x
  refine wpAny_mono (ht.run [] s1 (L2.start N vs) H _ I hq) (fun fl s' hs => ?_) fun e s' hs => hs
  have fin : ∀ {σ' : L2.St} {H' : Hp} {v : V} {u : Value}, Inv (cxQ P w K mg base N qual scope f cdv A outer s H E) [] σ' H' s' → L2.RelV v u → Q v H' → CE outer P w H s Q u s' :=
    fun {σ' H' v u} J rv q => ⟨v, H', J.os, J.bare, J.base, J.hok, rv, q⟩
  cases fl with
  | ret u =>
    obtain ⟨v, σ', H', J, rv, q⟩ := hs
    exact fin J rv q
  | next =>
    obtain ⟨σ', H', J, q⟩ := hs
    exact fin (v := V.non) (u := Value.none) J rfl q
  | brk =>
    obtain ⟨_, _, _, q⟩ := hs
    exact False.elim q
  | cont =>
    obtain ⟨_, _, _, q⟩ := hs
    exact False.elim q
structure XfCs (K : PySem.W.Frag) (cs : List Str) (f : Str) : Prop where
  at_ : ∀ c ∈ cs, XfC K (He.ga K c) ∧ PySem.W.findIn K (.ref (He.ga K c)) f = some none
def xfCsB (cs : List Str) (f : Str) (K : PySem.W.Frag) : Bool := cs.all fun c => xfB K (He.ga K c) && decide (PySem.W.findIn K (.ref (He.ga K c)) f = some none)
theorem xfCs_by {K : PySem.W.Frag} {cs : List Str} {f : Str} (h : xfCsB cs f K = true) : XfCs K cs f := ⟨fun c hc => by
  obtain ⟨h1, h2⟩ := Bool.and_eq_true_iff.mp (List.all_eq_true.mp h c hc)
  exact ⟨xfB_ok h1, of_decide_eq_true h2⟩⟩
theorem exc_fld {X : Cx} {pins : List (Addr × Obj)} {σ : L2.St} {H : Hp} {s : Shared} {a d : Addr} {c n : Str} {cs : List Str} {oe : Obj} {vs : Array Value} {es : List (Str × V)} {v : V} {Q : VK} {b : Bool} (T : XfCs X.K cs n) (hc : c ∈ cs) (I : Inv X pins σ H s) (ha : s.heap.get? a = some oe) (hz : Zc (.ref (He.ga X.K c)) (some d) oe) (hd : oe.data = .fields vs) (ea : H d = some (.xd es)) (l : es.lookup n = some v) (q : Q v H) :
    wpAny (model X.prog X.w) X.A (getAttr (.ref a) n b) (EP X pins σ Q) X.xe s := by
  obtain ⟨T1, hno⟩ := T.at_ c hc
  have hx : ObjOk X.prog X.w H s.heap d (.xd es) := I.hok d _ ea
  obtain ⟨mA, hns, hr⟩ := hx
  obtain ⟨od, ho, hl⟩ := lookIn_ns hns
  obtain ⟨u, hu, ru⟩ := RelO.some_of (v := v) (o := mA n) (by rw [← l]; exact hr n)
  have J : PySem.W.InstAt s.heap a oe (He.ga X.K c) (some od) := ⟨ha, hz.1, by unfold PySem.W.notCls; rw [hd] <;> rfl, by rw [hz.2]; exact ho⟩
  exact HandSPX.exc_get I.kIn J T1.ga T1.gg T1.exC (PySem.W.findObj_own T1.hdC hno rfl (by rw [hl, hu])) (handed_of ru) ⟨v, H, I.tok _, ru, q⟩
/-- e.f, e in slot i, frozen -/
def tCau (K : PySem.W.Frag) (cs : List Str) (i : Nat) (f : Str) : TE := fun σ H Q => ∃ (a d : Addr) (oe : Obj) (vs : Array Value) (es : List (Str × V)) (c : Str) (v : V), σ[i]? = some (some (.ref a)) ∧ H a = some (CelO oe) ∧ c ∈ cs ∧ Zc (.ref (He.ga K c)) (some d) oe ∧ oe.data = .fields vs ∧ H d = some (.xd es) ∧ es.lookup f = some v ∧ Q v H
theorem pe_cau {X : Cx} {cs : List Str} {i : Nat} {x n : Str} {p pos : Pos} (T : XfCs X.K cs n) (hN : X.N[i]? = some x) (hv : Vis X.env.scope x) (hdb : (x == ("__debug__" : Str)) = false := by decide) (hcd : (x == ("__classdict__" : Str)) = false := by decide)
    (hb : attributeBase (.Name x p) n X.env (eval (.Name x p) X.env) = eval (.Name x p) X.env := by rfl) : PE X (.Attribute (.Name x p) n pos) (tCau X.K cs i n) := by
  refine ⟨fun pins s σ H Q I h => ?_⟩
  obtain ⟨a, d, oe, vs, es, c, v, e1, e2, e3, e4, e5, e6, e7, q⟩ := h
  refine attr_of hb (thn ((pe_var (pos := p) (i := i) hN hv hdb hcd).run pins s σ H (fun v H1 => v = .ref a ∧ H1 = H) I ⟨.ref a, e1, rfl, rfl⟩) fun u s1 ⟨y, H1, I1, r1, ey, eH⟩ => ?_)
  subst ey eH
  obtain rfl : u = Value.ref a := r1
  have z : ObjOk X.prog X.w H1 s1.heap a (CelO oe) := I1.hok a _ e2
  exact exc_fld T e3 I1 z.1 e4 e5 e6 e7 q
/-- e.f in the except suite -/
def tXfs (K : PySem.W.Frag) (cs : List Str) (a : Addr) (cls : Value) (d : Option Addr) (f : Str) (i : Nat) : TE := fun σ H Q => ∃ (c : Str) (dd : Addr) (es : List (Str × V)) (v : V), σ[i]? = some (some (.ref a)) ∧ c ∈ cs ∧ cls = .ref (He.ga K c) ∧ d = some dd ∧ H dd = some (.xd es) ∧ es.lookup f = some v ∧ Q v H
theorem pe_xfs {X : Cx} {cs : List Str} {a : Addr} {oe : Obj} {cls : Value} {d : Option Addr} {pn : List (Addr × Obj)} {i : Nat} {x n : Str} {p pos : Pos} (T : XfCs X.K cs n) (hz : Zc cls d oe) (hf : ∃ vs, oe.data = .fields vs) (hN : X.N[i]? = some x) (hv : Vis X.env.scope x) (hdb : (x == ("__debug__" : Str)) = false := by decide) (hcd : (x == ("__classdict__" : Str)) = false := by decide)
    (hb : attributeBase (.Name x p) n X.env (eval (.Name x p) X.env) = eval (.Name x p) X.env := by rfl) : PE (X.suite a ((a, oe) :: pn)) (.Attribute (.Name x p) n pos) (tXfs X.K cs a cls d n i) := by
  refine ⟨fun pins s σ H Q I h => ?_⟩
  obtain ⟨c, dd, es, v, e1, e3, ec, ed, e6, e7, q⟩ := h
  subst ec ed
  obtain ⟨vs, hd⟩ := hf
  refine attr_of hb (thn ((pe_var (X := X.suite a ((a, oe) :: pn)) (pos := p) (i := i) hN hv hdb hcd).run pins s σ H (fun v H1 => v = .ref a ∧ H1 = H) I ⟨.ref a, e1, rfl, rfl⟩) fun u s1 ⟨y, H1, I1, r1, ey, eH⟩ => ?_)
  subst ey eH
  obtain rfl : u = Value.ref a := r1
  exact exc_fld (X := X.suite a ((a, oe) :: pn)) T e3 I1 (I1.pin (a, oe) (List.mem_append_left _ List.mem_cons_self)).1 hz hd e6 e7 q
def tCallF (sp : Sp) (a : Addr) (oe : Obj) (ta : TA) : TE := fun σ H Q => ta σ H fun vs H1 => sp vs (addL H1 [(a, oe)]) (fun v H2 => H2 a = some (CelO oe) → Q v (dropL H2 [(a, oe)])) (fun _ _ _ => False)
theorem lk1 {a b : Addr} {o oe : Obj} (h : List.lookup b [(a, oe)] = some o) : b = a ∧ o = oe := by
  by_cases c : b = a
  · subst c
    have : some oe = some o := by simpa [List.lookup] using h
    cases this
    exact ⟨rfl, rfl⟩
  · have nb : (b == a) = false := by simpa using c
    rw [List.lookup_cons, nb] at h
    cases h
open L2H in
theorem pe_callF {X : Cx} {k : Nat} {f a : Addr} {oe : Obj} {pn : List (Addr × Obj)} {fd : FuncData} {ps : List Str} {sp : Sp} {x : Str} {q pos : Pos} {e : Expr} {es : List Expr} {t : TA} (hb0 : X.base.get? a = none) (F : FnQ X.prog X.w X.K X.mg X.base k f fd ps sp) (hr : RoomH k (X.suite a ((a, oe) :: pn)).A) (hg : Gl X x) (hm : X.mg x = some (.ref f)) (hk : PySem.W.keepIn X.K (.ref f) = true) (hb : Binds X.K fd ps [])
    (ha : PA (X.suite a ((a, oe) :: pn)) (e :: es) t) (hdb : (x == ("__debug__" : Str)) = false := by decide) (he : starEach (e :: es) X.env = (false, eval e X.env) :: starEach es X.env := by rfl) (hpl : (backTo pos (starEach es X.env)).any (·.1) = false := by rfl) :
    PE (X.suite a ((a, oe) :: pn)) (.Call (.Name x q) (e :: es) [] pos) (tCallF sp a oe t) := by
  refine ⟨fun pins s σ H Q I h => ?_⟩
  refine wpAny_Call_Name_kw (ld_glob (X := X.suite a ((a, oe) :: pn)) I hg hm ?_ hdb)
  refine PySem.W.callWith_K (h₀ := X.base) I.ok.mod.kin hk (thn (ha.run pos pins s σ H _ I h) fun us s1 ⟨vs, H1, I1, r, q⟩ => ⟨I1.kIn, ?_⟩) he hpl
  have P1 := I1.pin (a, oe) (List.mem_append_left _ List.mem_cons_self)
  have nfr : a ∉ frs (X.suite a ((a, oe) :: pn)).stack := fun hm => (List.mem_cons.mp (I1.stkSub a hm)).elim P1.2.2.1 P1.2.2.2.1
  have l1 : ∀ b o, List.lookup b [(a, oe)] = some o → s1.heap.get? b = some o ∧ H1 b = none ∧ b ∉ frs (X.suite a ((a, oe) :: pn)).stack ∧ X.base.get? b = none := fun b o z => by
    obtain ⟨rfl, rfl⟩ := lk1 z
    exact ⟨P1.1, P1.2.1, nfr, hb0⟩
  have hl : us.length = ps.length := by rw [← r.length]; exact F.len _ _ _ _ q
  have b := hb s1 us I1.kIn (by rw [List.append_nil]; exact hl)
  rw [List.append_nil] at b
  refine wpAny_call (codeAny_mono (F.run _ _ s1 (addL H1 [(a, oe)]) ⟨us, []⟩ us vs _ _ hr (env_add I1.env0 l1) b r q) fun r s' hq' => ?_)
  cases r with
  | error e =>
    obtain ⟨_, _, _, _, _, _, _, _, _, _, _, _, z⟩ := hq'
    exact z.elim
  | ok fl =>
    cases fl with
    | ret u =>
      obtain ⟨v, H2, os, bare, U, k2, rv, q2⟩ := hq'
      obtain ⟨U1, k3, at3⟩ := un_add U (fun b o z => ⟨(l1 b o z).1, (l1 b o z).2.1, (l1 b o z).2.2.1⟩) k2
      exact I1.after ⟨v, _, os, bare, U1, k3, rv, q2 (at3 a oe (by simp [List.lookup]))⟩
    | next => exact False.elim hq'
    | brk => exact False.elim hq'
    | cont => exact False.elim hq'
end LM

end
section
set_option maxHeartbeats 4000000
namespace LM
open PySem PySem.Spec PySem.Calls PyProof.Rows L2 DL SU NdefX
section
variable {K : PySem.W.Frag} {W : WX} {hid : Addr → Prop} {M : Mem} {ad : List Addr} {H : Hp} {ρ : Rho} {σ : L2.St}
/-- what a def makes of a caught exception: its class, its fields' names, their values -/
abbrev GC := Str → List Str → List D → Mem → Res D
def spF (K : PySem.W.Frag) (gf : GC) : Sp := fun vs H Q E => ∃ (a : Addr) (hid : Addr → Prop) (c : Str) (ns : List Str) (ds : List D) (M : Mem) (ad : List Addr), vs = [.ref a] ∧ Ok K hid M ad H ∧ CauD K (wd hid M ad H) a c ns ds ∧ (pV K hid Q E).P M ad H (gf c ns ds M)
theorem spF_len {gf : GC} {vs : List V} {Q : VK} {E : XK} (h : spF K gf vs H Q E) : vs.length = 1 := by
  obtain ⟨a, _, _, _, _, _, _, e, _⟩ := h
  rw [e]
  rfl
def rhoC (N : Nat) (c : Str) (ns : List Str) (ds : List D) : Rho := Sl.cau c ns ds :: List.replicate (N - 1) Sl.no
def mBodyF (N : Nat) (m : SS) : GC := fun c ns ds M => endB (m (rhoC N c ns ds) M)
theorem body_okF {E : XK} {Q : VK} {N : List Str} {ts : TS} {m : SS} (s : SndS K (fun c d _ H' => E c d H') ts m) {vs : List V} (h : spF K (mBodyF N.length m) vs H Q E) (hN : 1 ≤ N.length) : ts { nx := fun _ H' => Q .non H', rt := Q } (L2.start N vs) H := by
  obtain ⟨a, hid, c, ns, ds, M, ad, e, k, hc, q⟩ := h
  subst e
  have at_ : ∀ (i : Nat) (z : Sl), (rhoC N.length c ns ds)[i]? = some z → (i = 0 ∧ z = .cau c ns ds) ∨ z = .no := fun i z e => by
    cases i with
    | zero =>
      have e' : some (Sl.cau c ns ds) = some z := by simpa [rhoC] using e
      cases e'
      exact .inl ⟨rfl, rfl⟩
    | succ j =>
      unfold rhoC at e
      rw [List.getElem?_cons_succ, List.getElem?_replicate] at e
      split at e
      · exact .inr (Option.some.inj e).symm
      · cases e
  refine run_body s k (σ := L2.start N [.ref a]) ⟨?_, fun i d z => ?_, fun i o z => ?_, fun i j o u b z => ?_, fun i es z => ?_, fun i c' ns' ds' z => ?_⟩ (fun i o z => ?_) q
  · unfold L2.start rhoC
    simp
    try omega
  · rcases at_ i _ z with ⟨_, e⟩ | e <;> cases e
  · rcases at_ i _ z with ⟨_, e⟩ | e <;> cases e
  · rcases at_ i _ z with ⟨_, e⟩ | e <;> cases e
  · rcases at_ i _ z with ⟨_, e⟩ | e <;> cases e
  · rcases at_ i _ z with ⟨e0, e⟩ | e
    · cases e
      subst e0
      exact ⟨a, rfl, hc⟩
    · cases e
  · rcases at_ i _ z with ⟨_, e⟩ | e <;> cases e
/-- e.f, e the caught exception in slot i -/
def mCau (cs : List Str) (i : Nat) (f : Str) : SE := fun ρ M => match ρ[i]? with
  | some (.cau c ns ds) => if c ∈ cs then (match fldD f ns ds with
    | some d => .ok d M
    | none => .bad) else .bad
  | _ => .bad
theorem snd_cau {cs : List Str} {i : Nat} {f : Str} : Snd K W (tCau K cs i f) (mCau cs i f) := fun hid σ ρ M ad H Q k r h => by
  unfold mCau at h
  cases er : ρ[i]? with
  | none =>
    rw [er] at h
    exact h.elim
  | some z =>
    cases z with
    | cau c ns ds =>
      rw [er] at h
      have h1 : (pV K hid Q (wx W σ)).P M ad H (if c ∈ cs then (match fldD f ns ds with
        | some d => Res.ok d M
        | none => .bad) else .bad) := h
      obtain ⟨a, e1, oe, vs, d, es, g1, g2, g3, g4, g5, g6, g7, g8⟩ := r.cau i c ns ds er
      by_cases hc : c ∈ cs
      · rw [if_pos hc] at h1
        cases ef : fldD f ns ds with
        | none =>
          rw [ef] at h1
          exact h1.elim
        | some d0 =>
          rw [ef] at h1
          obtain ⟨v, v1, v2⟩ := fldD_rp g8 (by rw [g7]; exact ef)
          exact ⟨a, d, oe, vs, es, c, v, e1, g1, hc, g3, g4, g5, v1, h1 v ad H Fr.refl k v2⟩
      · rw [if_neg hc] at h1
        exact h1.elim
    | _ =>
      rw [er] at h
      exact h.elim

noncomputable def mWhy (tab : List (LamC × GF)) (g i j : Nat) (told : Str) (f : Str) (cs : List Str) (gf : GC) : SS := fun ρ M => match mAct tab g (mVar i) ρ M with
  | .ok d M1 => .ok (.rt (.tup [.str told, d])) M1
  | .exc c ns ds M1 => if c ∈ cs ∧ j < ρ.length then (match fldD f ns ds with
    | some d1 => (match gf c ns ds M1 with
      | .ok d2 M2 => .ok (.rt (.tup [d1, d2])) M2
      | _ => .bad)
    | none => .bad) else .bad
  | .bad => .bad
def tWhy (K : PySem.W.Frag) (W : WX) (cv : List Value) (TB : LamC → Option Sp) (i j : Nat) (told f : Str) (cs : List Str) (sp : Sp) : TS := fun D σ H => tRet (tTup (tCons (tC (.str told)) (tCons (tAct TB (WE (wAsT K cv j (fun a oe cls d => tRet (tTup (tCons (tXfs K cs a cls d f j) (tCons (tCallF sp a oe (tCons (tVar j) tNil)) tNil)))) W D)) (tVar i)) tNil))) D σ H
theorem snd_why {cv : List Value} {tab : List (LamC × GF)} {g i j : Nat} {told f : Str} {cs : List Str} {gf : GC} (hx : ∀ c ∈ cs, PySem.W.exmAny K (.ref (He.ga K c)) cv = some true) : SndS K W (tWhy K W cv (TBof K tab) i j told f cs (spF K gf)) (mWhy tab g i j told f cs gf) := fun hid σ ρ M ad H E st q => by
  unfold mWhy at q
  have sa : Snd K (wAsT K cv j (fun a oe cls d => tRet (tTup (tCons (tXfs K cs a cls d f j) (tCons (tCallF (spF K gf) a oe (tCons (tVar j) tNil)) tNil)))) W E) (tAct (TBof K tab) (WE (wAsT K cv j (fun a oe cls d => tRet (tTup (tCons (tXfs K cs a cls d f j) (tCons (tCallF (spF K gf) a oe (tCons (tVar j) tNil)) tNil)))) W E)) (tVar i)) (mAct tab g (mVar i)) := snd_act (snd_var i)
  refine sa _ σ ρ M ad H _ st.ok st.rp ?_
  cases em : mAct tab g (mVar i) ρ M with
  | bad =>
    rw [em] at q
    exact q.elim
  | ok d M1 =>
    rw [em] at q
    intro v ad1 H1 f1 k1 r1
    refine ⟨by show 2 ≤ sizeLine; rw [sizeLine_eq]; omega, fun p np => ?_⟩
    have k1' : Ok K hid M1 ad1 H1 := k1.unhid fun _ z => .inl z
    have r1' : Rp K (wd hid M1 ad1 H1) d v := Rp.unhid (fun _ z => .inl z) r1
    obtain ⟨f2, k2, r2⟩ := new_tup (ds := [.str told, d]) (vs := [.str told, v]) k1' np (RpL.cons (rp_str _) (RpL.cons r1' RpL.nil))
    have f1' : FrG hid (hS hid ρ σ) hid M ad H M1 ad1 H1 := ⟨f1.le.trans (Le.unhid fun _ z => .inl z), fun a z => f1.hidk a (.inl z), f1.dom⟩
    exact q (.ref p) ad1 _ (f1'.trans (FrG.of f2 fun _ z => z)) k2 r2
  | exc c ns ds M1 =>
    rw [em] at q
    intro dx es ad1 H1 f1 k1 e1 e2 e3
    have q1 : PostS K W hid (hS hid ρ σ) M ad H E (if c ∈ cs ∧ j < ρ.length then (match fldD f ns ds with
      | some d1 => (match gf c ns ds M1 with
        | .ok d2 M2 => .ok (.rt (.tup [d1, d2])) M2
        | _ => .bad)
      | none => .bad) else .bad) := q
    by_cases hc : c ∈ cs ∧ j < ρ.length
    · rw [if_pos hc] at q1
      refine ⟨true, hx c hc.1, fun _ a oe na hz hf => ?_, fun z => Bool.noConfusion z⟩
      cases ef : fldD f ns ds with
      | none =>
        rw [ef] at q1
        exact q1.elim
      | some d1 =>
        rw [ef] at q1
        obtain ⟨v1, l1, rv1⟩ := fldD_rp e3 (by rw [e1]; exact ef)
        have k1' : Ok K hid M1 ad1 H1 := k1.unhid fun _ z => .inl z
        have rv1' : Rp K (wd hid M1 ad1 H1) d1 v1 := Rp.unhid (fun _ z => .inl z) rv1
        have e3' : RpL K (wd hid M1 ad1 H1) ds (es.map (·.2)) := RpL.unhid (fun _ z => .inl z) e3
        have f1' : FrG hid (hS hid ρ σ) hid M ad H M1 ad1 H1 := ⟨f1.le.trans (Le.unhid fun _ z => .inl z), fun a z => f1.hidk a (.inl z), f1.dom⟩
        have q2 : PostS K W hid hid M1 ad1 H1 E (match gf c ns ds M1 with
          | .ok d2 M2 => .ok (.rt (.tup [d1, d2])) M2
          | _ => .bad) := PostS.fr f1' q1
        have hj0 := hc.2
        · have hj : (σ.set j (some (.ref a)))[j]? = some (some (.ref a)) := List.getElem?_set_self (by rw [st.rp.len]; exact hj0)
          have nda : dx ≠ a := fun z => by
            have := e2.1
            rw [z, na] at this
            cases this
          have hL : ∀ b o, List.lookup b [(a, oe)] = some o → H1 b = none := fun b o z => by
            obtain ⟨rfl, rfl⟩ := lk1 z
            exact na
          obtain ⟨f3, k3⟩ := fr_add k1' hL
          obtain ⟨vs0, hvs⟩ := hf
          have aL : addL H1 [(a, oe)] a = some (CelO oe) := addL_at (by simp [List.lookup])
          have nbd : ¬ badOf hid M1 ad1 dx := fun z => e2.2 (z.elim (fun y => .inl (.inl y)) .inr)
          refine ⟨c, dx, es, v1, hj, hc.1, rfl, rfl, e2.1, l1, .ref a, hj, a, hid, c, ns, ds, M1, ad1, rfl, k3, ⟨oe, vs0, dx, es, aL, k1'.fresh na, hz, hvs, ?_, nbd, e1, RpL.le f3.le _ e3'⟩, ?_⟩
          · have : List.lookup dx [(a, oe)] = none := by
              have nb : (dx == a) = false := by simpa using nda
              rw [List.lookup_cons, nb]
              rfl
            exact (addL_ne this).trans e2.1
          · cases eg : gf c ns ds M1 with
            | ok d2 M2 =>
              rw [eg] at q2
              intro v2 ad2 H2 f4 k4 r4 at4
              have hL' : ∀ b o, List.lookup b [(a, oe)] = some o → ∃ ob, H2 b = some (CelO ob) := fun b o z => by
                obtain ⟨rfl, rfl⟩ := lk1 z
                exact ⟨_, at4⟩
              have hh : ∀ b, hid b → List.lookup b [(a, oe)] = none := fun b z => by
                cases y : List.lookup b [(a, oe)] with
                | none => rfl
                | some o => exact absurd (hL b o y) (k1'.hh b z)
              have f5 := fr_drop f4 hL hL' k1'.hh
              have k5 : Ok K hid M2 ad2 (dropL H2 [(a, oe)]) := ok_drop k4 hL' hh
              have r5 : Rp K (wd hid M2 ad2 (dropL H2 [(a, oe)])) d2 v2 := Rp.dr (dr_of hL') _ r4
              refine ⟨by show 2 ≤ sizeLine; rw [sizeLine_eq]; omega, fun p np => ?_⟩
              obtain ⟨f6, k6, r6⟩ := new_tup (ds := [d1, d2]) (vs := [v1, v2]) k5 np (RpL.cons (Rp.le f5.le _ rv1') (RpL.cons r5 RpL.nil))
              exact q2 (.ref p) ad2 _ (FrG.of (f5.trans f6) fun _ z => z) k6 r6
            | exc _ _ _ _ =>
              rw [eg] at q2
              exact q2.elim
            | bad =>
              rw [eg] at q2
              exact q2.elim
    · rw [if_neg hc] at q1
      exact q1.elim
end
end LM

end
section
set_option maxHeartbeats 4000000
theorem L2H.RoomH.units {k : Nat} {A : PySem.Around} (r : L2H.RoomH k A) : A.units + 64 < PySem.cLine := by have := r.un; omega
theorem L2H.RoomH.deep65 {k : Nat} {A : PySem.Around} (r : L2H.RoomH k A) : A.units + 65 < PySem.cLine := by have := r.un; omega
namespace LM
open PySem PySem.Spec PySem.Calls PyProof.Rows L2 DL SU NdefX
def permL {α : Type} (is : List Nat) (xs : List α) : List α := is.filterMap fun i => xs[i]?
theorem permL_vals {vs : List V} {us : List Value} (r : Vals vs us) : ∀ is : List Nat, Vals (permL is vs) (permL is us)
  | [] => .nil
  | i :: is => by
    have ih := permL_vals r is
    unfold permL at ih ⊢
    rw [List.filterMap_cons, List.filterMap_cons]
    cases e : vs[i]? with
    | none =>
      have e2 : us[i]? = none := by
        have := r.length
        rw [List.getElem?_eq_none_iff] at e ⊢
        omega
      rw [e2]
      exact ih
    | some v =>
      obtain ⟨u, hu, rv⟩ := r.get e
      rw [hu]
      exact .cons rv ih
theorem permL_rpl {K : PySem.W.Frag} {W : Wd} {ds : List D} {vs : List V} (r : RpL K W ds vs) : ∀ is : List Nat, RpL K W (permL is ds) (permL is vs)
  | [] => RpL.nil
  | i :: is => by
    have ih := permL_rpl r is
    unfold permL at ih ⊢
    rw [List.filterMap_cons, List.filterMap_cons]
    cases e : ds[i]? with
    | none =>
      have e2 : vs[i]? = none := by
        have := r.len
        rw [List.getElem?_eq_none_iff] at e ⊢
        omega
      rw [e2]
      exact ih
    | some d =>
      obtain ⟨v, hv, rv⟩ := r.get e
      rw [hv]
      exact RpL.cons rv ih
def oexB (C : Str) : PySem.W.Frag → Bool := fun K => (match K.lookup (He.ga K C) with
  | some ⟨.type "type", _, .cls cd, sl⟩ => (match cd.mro, sl.toList with
    | .ref C' :: bm, [_, _, _, _, some (.builtin n), _] => C' == He.ga K C && (n == "ValueError.__new__" && (!cd.hasDel && (cd.hasDict && HandSPX.refsVE bm)))
    | _, _ => false)
  | _ => false) && (decide (PySem.W.findIn K (.ref (He.ga K C)) "__setattr__" = some (some (.builtin "object.__setattr__"))) && (decide (PySem.W.subIn K (.ref (He.ga K C)) (.type "BaseException") = some true) && (decide (PySem.W.typeIn K (.ref (He.ga K C)) = some (.type "type")) && PySem.W.keepIn K (.ref (He.ga K C)))))
theorem oexB_ok {K : PySem.W.Frag} {C : Str} (h : oexB C K = true) : OexC K (He.ga K C) := by
  unfold oexB at h
  obtain ⟨h1, h⟩ := Bool.and_eq_true_iff.mp h
  obtain ⟨h2, h⟩ := Bool.and_eq_true_iff.mp h
  obtain ⟨h3, h⟩ := Bool.and_eq_true_iff.mp h
  obtain ⟨h4, h5⟩ := Bool.and_eq_true_iff.mp h
  refine ⟨?_, of_decide_eq_true h2, of_decide_eq_true h3, of_decide_eq_true h4, h5⟩
  split at h1
  · rename_i dd cd sl ho
    split at h1
    · rename_i C' bm k0 k1 k2 k3 n k5 hm hs
      simp only [Bool.and_eq_true, beq_iff_eq, Bool.not_eq_true'] at h1
      obtain ⟨rfl, rfl, hdel, hd, hv⟩ := h1
      obtain ⟨nm, bs, mro, ns, qn, hd', sn, sub, ab, col, del⟩ := cd
      dsimp only at hm hdel hd
      subst hm hdel hd
      have hsl : sl = #[k0, k1, k2, k3, some (.builtin "ValueError.__new__"), k5] := by
        obtain ⟨l⟩ := sl
        simp only at hs
        rw [hs]
      subst hsl
      exact ⟨nm, qn, ns, bs, bm, sn, sub, ab, col, dd, k0, k1, k2, k3, k5, ho, hv⟩
    · cases h1
  · cases h1
def exB (C : Str) (fs : List Str) : PySem.W.Frag → Bool := fun K => oexB C K && (decide (PySem.W.mroIn K (He.ga K C) (.ref (He.ga K C)) = some true) && (decide (PySem.W.ks_superIn K (He.ga K C) (He.ga K C) "__init__" = some (some (.builtin "ValueError.__init__"))) && (decide (PySem.W.subIn K (.ref (He.ga K C)) (.type "ValueError") = some true) &&
  (("code" : Str) :: fs).all fun f => decide (PySem.W.findIn K (.ref (He.ga K C)) f = some none))))
theorem exB_ok {K : PySem.W.Frag} {C : Str} {fs : List Str} (h : exB C fs K = true) : ExC K (He.ga K C) fs := by
  unfold exB at h
  obtain ⟨h1, h⟩ := Bool.and_eq_true_iff.mp h
  obtain ⟨h2, h⟩ := Bool.and_eq_true_iff.mp h
  obtain ⟨h3, h⟩ := Bool.and_eq_true_iff.mp h
  obtain ⟨h4, h5⟩ := Bool.and_eq_true_iff.mp h
  exact ⟨oexB_ok h1, ⟨of_decide_eq_true h2, of_decide_eq_true h3, of_decide_eq_true h4⟩, fun f hf => of_decide_eq_true (List.all_eq_true.mp h5 f hf)⟩
/-- its __init__ -/
def einB (C : Str) : PySem.W.Frag → Bool := fun K => decide (PySem.W.findIn K (.ref (He.ga K C)) "__init__" = some (some (.ref (He.ma K (He.ga K C) "__init__")))) && decide (PySem.W.typeIn K (.ref (He.ma K (He.ga K C) "__init__")) = some (.type "function"))
theorem einB_ok {K : PySem.W.Frag} {C : Str} (h : einB C K = true) : PySem.W.findIn K (.ref (He.ga K C)) "__init__" = some (some (.ref (He.ma K (He.ga K C) "__init__"))) ∧ PySem.W.typeIn K (.ref (He.ma K (He.ga K C) "__init__")) = some (.type "function") := by
  obtain ⟨h1, h2⟩ := Bool.and_eq_true_iff.mp h
  exact ⟨of_decide_eq_true h1, of_decide_eq_true h2⟩
/-- which classes a tuple of classes catches -/
def exmB (c : Str) (ts : List Str) (b : Bool) : PySem.W.Frag → Bool := fun K => decide (PySem.W.exmAny K (.ref (He.ga K c)) (ts.map fun t => .ref (He.ga K t)) = some b)
theorem exmB_ok {K : PySem.W.Frag} {c : Str} {ts : List Str} {b : Bool} (h : exmB c ts b K = true) : PySem.W.exmAny K (.ref (He.ga K c)) (ts.map fun t => .ref (He.ga K t)) = some b := of_decide_eq_true h
theorem names_of {X : Cx} {x : Str} {c : Value} (hg : Gl X x) (hm : X.mg x = some c) (hd : (x == ("__debug__" : Str)) = false := by decide) : Names X x c := ⟨hg, hd, .inl hm⟩
section
variable {P : Program} {w : World} {K : PySem.W.Frag} {mg : Str → Option Value} {base : Heap} {N : List Str} {qual : Str} {scope : Scope} {f : Addr} {cd : Value} {A : Around} {outer : List Env} {s : Shared} {H : Hp} {E : XK}
theorem cellsFrom_pair : ∀ (names : List (Str × NameKind)) (n : Nat) (acc : List (Str × Addr)), (acc.Pairwise fun x y => x.2 ≠ y.2) → (∀ p ∈ acc, p.2 < n) → (cellsFrom n names acc).Pairwise fun x y => x.2 ≠ y.2
  | [], _, acc, h, _ => h
  | (m, k) :: r, n, acc, h, hl => by
    unfold cellsFrom
    split
    · exact cellsFrom_pair r (n + 1) _ (List.pairwise_cons.mpr ⟨fun p hp => Nat.ne_of_gt (hl p hp), h⟩) fun p hp => by
        rcases List.mem_cons.mp hp with e | hp
        · rw [e]
          exact Nat.lt_succ_self _
        · exact Nat.lt_succ_of_lt (hl p hp)
    · exact cellsFrom_pair r n acc h hl
theorem cells_inj {n : Nat} {sc : Scope} {x y : Str} {c : Addr} (h1 : (cellsFrom n sc.names []).lookup x = some c) (h2 : (cellsFrom n sc.names []).lookup y = some c) : x = y :=
  name_of_addr (cellsFrom_pair sc.names n [] .nil (fun _ h => nomatch h)) (PySem.mem_of_lookup h1) (PySem.mem_of_lookup h2)
/-- their addresses -/
def cellAs (cells : List (Str × Addr)) (ns : List Str) : List Addr := ns.map fun x => (cells.lookup x).getD 0
theorem cellAs_nodup {n : Nat} {sc : Scope} {ns : List Str} (hn : ns.Nodup) (hc : ∀ x ∈ ns, sc.names.lookup x = some .cell) : (cellAs (cellsFrom n sc.names []) ns).Nodup := by
  unfold cellAs
  rw [List.nodup_iff_pairwise_ne, List.pairwise_map]
  refine (List.nodup_iff_pairwise_ne.mp hn).imp_of_mem fun {x y} hx hy ne e => ne ?_
  obtain ⟨a, ha⟩ := cell_has (n := n) (hc x hx)
  obtain ⟨b, hb⟩ := cell_has (n := n) (hc y hy)
  rw [ha, hb] at e
  have e' : a = b := e
  subst e'
  exact cells_inj ha hb
/-- slots of the cells' names -/
def csOf (as : List Addr) (is : List Nat) : List (Addr × Nat) := as.zip is
theorem csOk_of {ns : List Str} {is : List Nat} (hc : ∀ x ∈ ns, scope.names.lookup x = some .cell) (hN : ∀ p ∈ ns.zip is, N[p.2]? = some p.1) : CsOk (cxOf (L2.CX P w) P w K mg base N qual scope f cd A outer s H E) (csOf (cellAs (cellsFrom (s.heap.objs.size + 1) scope.names []) ns) is) := ⟨fun p hp => by
  unfold csOf cellAs at hp
  rw [List.zip_map_left] at hp
  obtain ⟨q, hq, e⟩ := List.mem_map.mp hp
  subst e
  obtain ⟨a, ha⟩ := cell_has (n := s.heap.objs.size + 1) (hc q.1 (List.of_mem_zip hq).1)
  refine ⟨q.1, hN q hq, ?_, hc q.1 (List.of_mem_zip hq).1, rfl⟩
  show (cellsFrom (s.heap.objs.size + 1) scope.names []).lookup q.1 = some (((cellsFrom (s.heap.objs.size + 1) scope.names []).lookup q.1).getD 0)
  rw [ha]
  rfl⟩
def capB (sc : Scope) (F : LamC) : Bool := F.scope.names.all fun y => !decide (y.2 = .free) || decide (sc.names.lookup y.1 = some .cell)
theorem capB_ok {sc : Scope} {F : LamC} {n : Nat} (h : capB sc F = true) : ∀ y ∈ F.scope.names, y.2 = .free → ∃ c, (cellsFrom n sc.names []).lookup y.1 = some c := fun y hy e => by
  have := List.all_eq_true.mp h y hy
  simp only [Bool.or_eq_true, Bool.not_eq_true', decide_eq_false_iff_not, decide_eq_true_eq] at this
  rcases this with z | z
  · exact absurd e z
  · exact cell_has z
end
theorem LamOk.mono {P : Program} {w : World} {K : PySem.W.Frag} {mg : Str → Option Value} {base : Heap} {j k : Nat} {F : LamC} {sp : Sp} (h : LamOk P w K mg base j F sp) (i : j ≤ k) : LamOk P w K mg base k F sp :=
  fun A outer s H f c dv cl us Q E hr => h A outer s H f c dv cl us Q E (hr.mono i)
theorem roomQ {k : Nat} {A : Around} (r : Room k A) (h : Option Value) : L2H.RoomH k (A.mark h) := ⟨r.dp, r.un⟩
section
variable {K : PySem.W.Frag}
def mLamB (m : SE) : GF := fun ds M => m (ds.map Sl.val) M
theorem run_expr {n : Nat} {E : XK} {Q : VK} {te : TE} {m : SE} (s : Snd K (fun c d _ H' => E c d H') te m) {vs : List V} {H : Hp} (h : spD K n (mLamB m) vs H Q E) : te (vs.map some) H Q := by
  obtain ⟨hid, ds, M, ad, e, k, r, q⟩ := h
  have oth : ∀ (i : Nat) (z : Sl), (ds.map Sl.val)[i]? = some z → ∃ d, z = .val d ∧ ds[i]? = some d := fun i z h => by
    rw [List.getElem?_map] at h
    cases e : ds[i]? with
    | none =>
      rw [e] at h
      cases h
    | some d =>
      rw [e] at h
      exact ⟨d, (Option.some.inj h).symm, rfl⟩
  refine s hid (vs.map some) (ds.map Sl.val) M ad H Q k ⟨?_, fun i d z => ?_, fun i o z => ?_, fun i j o u a z => ?_, fun i es z => ?_, fun i c ns ds z => ?_⟩ q
  · rw [List.length_map, List.length_map, r.len]
  · obtain ⟨d', e1, e2⟩ := oth i _ z
    cases e1
    obtain ⟨v, g1, g2⟩ := r.get e2
    exact ⟨v, by rw [List.getElem?_map, g1]; rfl, g2⟩
  · obtain ⟨d', e1, _⟩ := oth i _ z
    cases e1
  · obtain ⟨d', e1, _⟩ := oth i _ z
    cases e1
  · obtain ⟨d', e1, _⟩ := oth i _ z
    cases e1
  · obtain ⟨d', e1, _⟩ := oth i _ z
    cases e1
/-- a def that makes lambdas: its cells' addresses are anything -/
def spM (K : PySem.W.Frag) (n m : Nat) (g : List Addr → GF) : Sp := fun vs H Q E => ∃ (hid : Addr → Prop) (ds : List D) (M : Mem) (ad : List Addr), ds.length = n ∧ Ok K hid M ad H ∧ RpL K (wd hid M ad H) ds vs ∧ ∀ as : List Addr, as.length = m → as.Nodup → (pV K hid Q E).P M ad H (g as ds M)
theorem spM_len {n m : Nat} {g : List Addr → GF} {vs : List V} {H : Hp} {Q : VK} {E : XK} (h : spM K n m g vs H Q E) : vs.length = n := by
  obtain ⟨_, ds, _, _, e, _, r, _⟩ := h
  rw [r.len, e]
theorem spM_at {n m : Nat} {g : List Addr → GF} {vs : List V} {H : Hp} {Q : VK} {E : XK} (h : spM K n m g vs H Q E) (as : List Addr) (hl : as.length = m) (hn : as.Nodup) : spD K n (g as) vs H Q E := by
  obtain ⟨hid, ds, M, ad, e, k, r, q⟩ := h
  exact ⟨hid, ds, M, ad, e, k, r, q as hl hn⟩
/-- a, b, c = x, y, z -/
def mPar3 (i j l : Nat) (m : SA) : SS := fun ρ M => liftE (m ρ M) ρ fun ds M1 => match ds with
  | [d, e, f] => .ok (.nx (((ρ.set i (.val d)).set j (.val e)).set l (.val f))) M1
  | _ => .bad
theorem snd_par3 {W : WX} {i j l : Nat} {ta : TA} {m : SA} (h : SndA K W ta m) : SndS K W (tPar3 i j l ta) (mPar3 i j l m) := fun hid σ ρ M ad H E st q => by
  refine h.stepS st q fun ds M1 xs ad1 H1 f s r q => ?_
  match ds, q with
  | [d, e, g], q =>
    obtain ⟨v, r1, e1, h1, h2⟩ := r.consI
    obtain ⟨w, r2, e2, h3, h4⟩ := h2.consI
    obtain ⟨u, r3, e3, h5, h6⟩ := h4.consI
    have e4 := h6.nilI
    subst e1 e2 e3 e4
    obtain ⟨s1, f1⟩ := s.put (i := i) h1
    obtain ⟨s2, f2⟩ := s1.put (i := j) (Rp.le f1.le e h3)
    obtain ⟨s3, f3⟩ := s2.put (i := l) (Rp.le f2.le g (Rp.le f1.le g h5))
    exact ⟨v, w, u, rfl, q _ ad1 H1 ((f1.trans f2).trans f3) s3⟩
  | [], q => exact q.elim
  | [_], q => exact q.elim
  | [_, _], q => exact q.elim
  | _ :: _ :: _ :: _ :: _, q => exact q.elim
theorem snd_lamE {W : WX} {ti : Nat} {P : Addr} {F : LamC} {cl cl' : List (Str × Addr)} (e : cl' = cl) : Snd K W (tLamE P F cl') (mLam ti P F cl) := by
  subst e
  exact snd_lam
end
/-- a def told of its own code object -/
theorem funD_okC {CX : CXT} {P : Program} {w : World} {K : PySem.W.Frag} {mg : Str → Option Value} {base : Heap} {x qual : Str} {params : Arguments} {body : List Stmt} {scope : Scope} {dvs : List V} {kws : List (Str × V)} {f : Addr} {fd : FuncData} {N ps : List Str} {k : Nat} {sp : Sp}
    (F : FunD K x qual params body scope dvs kws f fd) (S : FnScope N ps scope) (len : ∀ vs H Q E, sp vs H Q E → vs.length = ps.length)
    (hbody : ∀ (cdv : Value) (A : Around) (outer : List Env) (s : Shared) (H : Hp) (vs : List V) (Q : VK) (E : XK), cdv = fd.code → Room k (A.deeper (envOfC qual scope s.heap.objs.size f cdv)) → sp vs H Q E →
      ∃ t, PSs (cxOf CX P w K mg base N qual scope f cdv A outer s H E) body t ∧ t { nx := fun _ H' => Q .non H', rt := Q } (L2.start N vs) H) : FnOk P w K mg base CX (k + 1) f fd ps sp := by
  obtain ⟨oc, od, dV, kV, doc, pm, an, cdv, ct, osl, rfl, lk, hcd, _, _⟩ := F.ex
  exact fn_of lk hcd S len fun A outer s H vs Q E hr hsp => hbody cdv A outer s H vs Q E rfl hr hsp
def TabH (x : Str) (K : PySem.W.Frag) (h : Heap) : Prop := ∃ (oc : Value) (od : Option Addr) (fd : FuncData) (sl : Array (Option Value)) (c P : Addr), K.lookup (He.ga K x) = some ⟨oc, od, .func fd, sl⟩ ∧ fd.code = .ref c ∧ PySem.W.CodeHd h c P ∧ h.get? P = some { cls := .none, data := .fields #[] } ∧ K.lookup P = none
def tabB (x : Str) (g : Addr → Option Obj) (K : PySem.W.Frag) : Bool := match K.lookup (He.ga K x) with
  | some ⟨_, _, .func fd, _⟩ => (match fd.code with
    | .ref c => (match g c with
      | some ⟨.type "code", _, .fields vs, _⟩ => (match (vs[11]? : Option Value), vs.getD 18 .none, vs.getD 7 .none, vs.getD 9 .none, vs.getD 10 .none with
        | some (.ref P), .str _ _, .int _ _, .bool _, .int _ _ => decide (c ≠ P) && ((K.lookup P).isNone && (match g P with
          | some ⟨.none, none, .fields ps, sl⟩ => ps.isEmpty && sl.isEmpty
          | _ => false))
        | _, _, _, _, _ => false)
      | _ => false)
    | _ => false)
  | _ => false
theorem tabB_ok {x : Str} {K : PySem.W.Frag} {h : Heap} (e : tabB x h.get? K = true) : TabH x K h := by
  unfold tabB at e
  split at e
  · rename_i oc od fd sl lk
    split at e
    · rename_i c ec
      split at e
      · rename_i od2 vs sl2 gc
        split at e
        · rename_i P file tf flags tg inF text tt e1 e2 e3 e4 e5
          obtain ⟨h1, e⟩ := Bool.and_eq_true_iff.mp e
          obtain ⟨h2, e⟩ := Bool.and_eq_true_iff.mp e
          split at e
          · rename_i ps sl3 gP
            obtain ⟨h3, h4⟩ := Bool.and_eq_true_iff.mp e
            have z3 : ps = #[] := by simpa using h3
            have z4 : sl3 = #[] := by simpa using h4
            subst z3 z4
            exact ⟨oc, od, fd, sl, c, P, lk, ec, ⟨_, vs, file, tf, flags, tg, inF, text, tt, gc, rfl, rfl, e1, by rw [Array.getD_eq_getD_getElem?, e1]; rfl, e2, e3, e4, e5, of_decide_eq_true h1⟩, gP, by simpa using h2⟩
          · cases e
        · cases e
      · cases e
    · cases e
  · cases e
theorem TabH.keeps {x : Str} {K : PySem.W.Frag} {h h' : Heap} (t : TabH x K h) (k : ∀ b o, h.get? b = some o → h'.get? b = some o) : TabH x K h' := by
  obtain ⟨oc, od, fd, sl, c, P, h1, h2, h3, h4, h5⟩ := t
  exact ⟨oc, od, fd, sl, c, P, h1, h2, h3.keeps k, k _ _ h4, h5⟩
/-- the table of the code of x -/
def codeP (x : Str) (g : Addr → Option Obj) (K : PySem.W.Frag) : Addr := match K.lookup (He.ga K x) with
  | some ⟨_, _, .func fd, _⟩ => (match fd.code with
    | .ref c => (match g c with
      | some ⟨_, _, .fields vs, _⟩ => (match (vs[11]? : Option Value) with
        | some (.ref P) => P
        | _ => c)
      | _ => c)
    | _ => 0)
  | _ => 0
/-- what the head looks at: not the table, for it changes -/
def asT (g : Addr → Option Obj) (n : Nat) (x : Str) : List Addr := (fun as : List Addr => (fun P : Addr => as.filter fun a => !Nat.beq a P) (codeP x g (He.frG g as))) (asS g n)
def obsT (n : Nat) (L : Looks3) (x : Str) (g : Addr → Option Obj) : AlS × Bool := (L.see (He.frG g (asT g n x)), tabB x g (He.frG g (asT g n x)))
def hookT (n : Nat) (L : Looks3) (x : Str) : PySem.W.Hook where
  α := AlS × Bool
  obs := fun s => obsT n L x s.heap.get?
  val := fun _ => (L.val, true)
  says := fun _ h => ∃ K : PySem.W.Frag, K.In h ∧ SaysS L K ∧ TabH x K h
  of := fun _ _ e => ⟨_, He.frG_in, congrArg Prod.fst e, tabB_ok (congrArg Prod.snd e)⟩
  keeps := fun _ _ _ ⟨K, hK, c, t⟩ k => ⟨K, PySem.W.Frag.In.keeps hK k, c, t.keeps k⟩
theorem obsT_eq {n : Nat} {L : Looks3} {x : Str} {g : Addr → Option Obj} {s : Shared} (h : ∀ a, g a = s.heap.get? a) : obsT n L x g = (hookT n L x).obs s := by
  have e : g = s.heap.get? := funext h
  rw [e] <;> rfl
/-- the law's promise at the start -/
theorem law_spM {K : PySem.W.Frag} {m : Nat} {P : Addr} {q : Str} {g : List Addr → GF} {H : Hp} {a : Addr} {ns : List Int} (hP : H P = some (.tbl #[])) (hS : SqL K H a (ns.map V.int)) (hg : ∀ as : List Addr, as.length = m → as.Nodup → ∃ M', g as [.scr ns] [.tbl P q] = .ok (.bl true) M') : spM K 1 m g [.ref a] H (fun v _ => v = .bl true) fun _ _ _ => False := by
  have one : ∀ {i : Nat} {o : MO}, ([MO.tbl P q] : Mem)[i]? = some o → i = 0 ∧ o = .tbl P q := fun {i o} e => by
    cases i with
    | zero => exact ⟨rfl, (Option.some.inj e).symm⟩
    | succ j => simp at e
  have onea : ∀ {i : Nat} {b : Addr}, ([P] : List Addr)[i]? = some b → b = P := fun {i b} e => by
    cases i with
    | zero => exact (Option.some.inj e).symm
    | succ j => simp at e
  refine ⟨fun _ => False, [.scr ns], [.tbl P q], [P], rfl, ⟨rfl, fun i j b h1 h2 _ _ => ?_, fun i b _ _ z => z, fun i o b e1 e2 => ?_, fun b z => z.elim⟩, RpL.cons ?_ RpL.nil, fun as h1 h2 => ?_⟩
  · obtain ⟨o, e, _⟩ := h1
    obtain ⟨o', e', _⟩ := h2
    rw [(one e).1, (one e').1]
  · obtain ⟨_, rfl⟩ := one e1
    obtain rfl := onea e2
    refine ⟨rfl, #[], hP, True.intro, fun pos cv hc => ?_⟩
    have z : codeAmong pos [] = some cv := hc
    simp [codeAmong] at z
  · simp only [Rp]
    refine ⟨a, rfl, hS.imp (fun z => ⟨z, ?_⟩) id⟩
    rintro (b | ⟨i, h1, h2⟩)
    · exact b
    · obtain rfl := onea h2
      rcases z with z | ⟨o, z⟩ <;> rw [hP] at z <;> cases z
  · obtain ⟨M', e⟩ := hg as h1 h2
    rw [e]
    intro v ad' H' _ _ r
    simpa only [Rp] using r
end LM

end
section
set_option maxHeartbeats 4000000
namespace LP
open PySem
def s0 : Stmt := .Pass ⟨0, 0, 0, 0⟩
def e0 : Expr := .Constant .none 0 ⟨0, 0, 0, 0⟩
def body : Stmt → List Stmt
  | .For _ _ b _ _ => b
  | .While _ b _ _ => b
  | .If _ b _ _ => b
  | _ => []
def orelse : Stmt → List Stmt
  | .If _ _ o _ => o
  | _ => []
def stest : Stmt → Expr
  | .If t _ _ _ => t
  | _ => e0
def val : Stmt → Expr
  | .Assign _ v _ => v
  | .Return (some v) _ => v
  | .Expr v _ => v
  | _ => e0
def elts : Expr → List Expr
  | .List es _ => es
  | .Tuple es _ _ => es
  | _ => []
def func : Expr → Expr
  | .Call f _ _ _ => f
  | _ => e0
def args : Expr → List Expr
  | .Call _ es _ _ => es
  | _ => []
def opd : Expr → Expr
  | .UnaryOp _ e _ => e
  | _ => e0
def vals : Expr → List Expr
  | .BoolOp _ es _ => es
  | _ => []
def lps : Expr → Arguments
  | .Lambda p _ _ _ => p
  | _ => ⟨[], [], none, [], [], none, []⟩
def lbody : Expr → Expr
  | .Lambda _ b _ _ => b
  | _ => e0
def lscope : Expr → Scope
  | .Lambda _ _ s _ => s
  | _ => default
end LP

end
section
set_option maxHeartbeats 4000000
namespace LM
open PySem PySem.Spec PyProof.Rows L2 DL
theorem tuple_mul1 (l : Addr) (items : Array Value) (n : Nat) (dd : Option Addr) (sl : Array (Option Value)) (u : Tok) :
    Meets (Builtin.«tuple.__mul__» ⟨[.ref l, .int 1 u], []⟩) (fun _ R s => s.heap.get? l = some { cls := .type "tuple", dict := dd, data := .seq items n, slots := sl } ∧ R (.ok (.ret (Value.ref l))) s) :=
  .of_wp fun prog w A R s h => by
    obtain ⟨hp, g, d, tk, os⟩ := s
    obtain ⟨hl, h⟩ := h
    have f1 := AutoSeq1.idx_int
    have c0 : (decide ((1 : Int) < -(2 ^ 63)) || decide ((1 : Int) ≥ 2 ^ 63)) = false := by decide
    have c1 : (items.isEmpty || (1 : Int) == 1) = true := by simp
    wp_walk using wpAny_loadPart' hl
    repeat (first
      | (refine wpAny_ite_false (decide_eq_false (by rw [c0]; exact Bool.false_ne_true)) ?_; wp_walk using wpAny_loadPart' hl)
      | (refine wpAny_ite_true (decide_eq_true (by rw [c1])) ?_; wp_walk using wpAny_loadPart' hl))
    exact ⟨_, rfl, h⟩
theorem tuple_mul0 (l : Addr) (items : Array Value) (n : Nat) (dd : Option Addr) (sl : Array (Option Value)) (x : Int) (u : Tok) (c0 : (decide (x < -(2 ^ 63)) || decide (x ≥ 2 ^ 63)) = false) (c1 : (items.isEmpty || x == 1) = false) (c2 : (decide (x ≤ 0) || items.isEmpty) = true) :
    Meets (Builtin.«tuple.__mul__» ⟨[.ref l, .int x u], []⟩) (fun _ R s => s.heap.get? l = some { cls := .type "tuple", dict := dd, data := .seq items n, slots := sl } ∧
      R (.ok (.ret (Value.ref s.heap.objs.size))) { s with heap := s.heap.push { cls := Value.type "tuple", data := Data.seq #[] }, toks := s.toks }) :=
  .of_wp fun prog w A R s h => by
    obtain ⟨hp, g, d, tk, os⟩ := s
    obtain ⟨hl, h⟩ := h
    have f1 := AutoSeq1.idx_int
    wp_walk using wpAny_loadPart' hl
    repeat (first
      | (refine wpAny_ite_false (decide_eq_false (by rw [c0]; exact Bool.false_ne_true)) ?_; wp_walk using wpAny_loadPart' hl)
      | (refine wpAny_ite_false (decide_eq_false (by rw [c1]; exact Bool.false_ne_true)) ?_; wp_walk using wpAny_loadPart' hl)
      | (refine wpAny_ite_true (decide_eq_true (by rw [c2])) ?_; wp_walk using wpAny_loadPart' hl))
    exact ⟨_, rfl, h⟩
def rRepT1 (K : PySem.W.Frag) : R2 := fun x y H Q => ∃ l xs, x = .ref l ∧ y = .int 1 ∧ SqT K H l xs ∧ Q (.ref l) H
def rRepT0 (K : PySem.W.Frag) : R2 := fun x y H Q => ∃ l k xs, x = .ref l ∧ y = .int k ∧ SqT K H l xs ∧ xs ≠ [] ∧ -1000 ≤ k ∧ k ≤ 0 ∧ ∀ p, H p = none → Q (.ref p) (upd H p (.tup []))
section
variable {X : Cx}
theorem op_repT1 : OpR X (binaryOp .Mult) (rRepT1 X.K) := by
  intro pins s σ H x y v u Q I rx ry h
  obtain ⟨l, xs, rfl, rfl, hT, q⟩ := h
  cases rx
  obtain ⟨t, rfl⟩ := ry
  obtain ⟨its, r, ⟨⟨cls, dd, data, sl⟩, ho, hc, n, hd⟩, hs⟩ := I.tuple hT
  simp only at hc hd
  subst hc hd
  exact wpAny_binaryOp_repeat_ref (T := "tuple") (U := "int") (by decide) ⟨_, ho, rfl⟩ (fun s' => typeIs_int s' 1 t) noFill_tuple_mul F.fills_int_mul F.slot_int_rmul repeat_tuple F.slot_int_index.lookup
    (call_meets F.slot_int_rmul (typeIs_int s 1 t) F.entry_int_rmul (F.args_int_rmul_2 _ _) (int_rmul_tuple 1 t l its.toArray n dd sl)
      ⟨ho, rfl, ⟨_, ho, rfl⟩, call_meets F.slot_tuple_mul ⟨_, ho, rfl⟩ F.entry_tuple_mul (F.args_tuple_mul_2 _ _) (tuple_mul1 l its.toArray n dd sl t) ⟨ho, ⟨.ref l, H, I, rfl, q⟩⟩⟩)
theorem op_repT0 : OpR X (binaryOp .Mult) (rRepT0 X.K) := by
  intro pins s σ H x y v u Q I rx ry h
  obtain ⟨l, k, xs, rfl, rfl, hT, hne, h1, h2, q⟩ := h
  cases rx
  obtain ⟨t, rfl⟩ := ry
  obtain ⟨its, r, ⟨⟨cls, dd, data, sl⟩, ho, hc, n, hd⟩, hs⟩ := I.tuple hT
  simp only at hc hd
  subst hc hd
  have hle : its.length = xs.length := r.length.symm
  have hn : its ≠ [] := fun e => hne (by
    rw [e] at hle
    exact List.eq_nil_of_length_eq_zero hle.symm)
  have hi : its.toArray.isEmpty = false := by
    cases its with
    | nil => exact absurd rfl hn
    | cons a b => rfl
  have c0 : (decide (k < -(2 ^ 63)) || decide (k ≥ 2 ^ 63)) = false := by
    rw [decide_eq_false (by omega), decide_eq_false (by omega)] <;> rfl
  have c1 : (its.toArray.isEmpty || k == 1) = false := by
    rw [hi, Bool.false_or]
    exact beq_eq_false_iff_ne.mpr (by omega)
  have c2 : (decide (k ≤ 0) || its.toArray.isEmpty) = true := by
    rw [decide_eq_true h2] <;> rfl
  refine wpAny_binaryOp_repeat_ref (T := "tuple") (U := "int") (by decide) ⟨_, ho, rfl⟩ (fun s' => typeIs_int s' k t) noFill_tuple_mul F.fills_int_mul F.slot_int_rmul repeat_tuple F.slot_int_index.lookup
    (call_meets F.slot_int_rmul (typeIs_int s k t) F.entry_int_rmul (F.args_int_rmul_2 _ _) (int_rmul_tuple k t l its.toArray n dd sl)
      ⟨ho, rfl, ⟨_, ho, rfl⟩, call_meets F.slot_tuple_mul ⟨_, ho, rfl⟩ F.entry_tuple_mul (F.args_tuple_mul_2 _ _) (tuple_mul0 l its.toArray n dd sl k t c0 c1 c2) ⟨ho, ?_⟩⟩)
  refine ⟨.ref s.heap.objs.size, _, I.laid (t' := s.toks) (o := .tup []) (fun b ob q => Heap.get?_push_of_some _ q) (Nat.le_refl _) ?_, rfl, q _ (I.hok.fresh (Nat.le_refl _))⟩
  exact ⟨by rw [sizeLine_eq]; simp, _, .nil, IsTup.new _ _⟩
end
def rRepTA (K : PySem.W.Frag) : R2 := fun x y H Q => rRepT1 K x y H Q ∨ (rRepT0 K x y H Q ∨ rRepT K x y H Q)
theorem op_repTA {X : Cx} : OpR X (binaryOp .Mult) (rRepTA X.K) := op_repT1.or (op_repT0.or op_repT)
def fMulT1 : D → D → Mem → Res D := fun x y M => match x, y with
  | .tup i, .int n => if n = 1 then .ok (.tup i) M else .bad
  | _, _ => .bad
def fMulT0 : D → D → Mem → Res D := fun x y M => match x, y with
  | .tup i, .int n => if i ≠ [] ∧ -1000 ≤ n ∧ n ≤ 0 then .ok (.tup []) M else .bad
  | _, _ => .bad
def fMulT2 : D → D → Mem → Res D := fun x y M => match x, y with
  | .tup i, .int n => if i ≠ [] ∧ 2 ≤ n ∧ n ≤ 1000 ∧ i.length ≤ 1000 then .ok (.tup (List.replicate n.toNat i).flatten) M else .bad
  | _, _ => .bad
section
variable {K : PySem.W.Frag}
theorem ops_mulT1 : OpS K (rRepT1 K) fMulT1 := fun hid M ad H dx dy x y Q E k rx ry q => by
  cases dx with
  | tup i =>
    cases dy with
    | int n =>
      have q' : (pV K hid Q E).P M ad H (if n = 1 then .ok (.tup i) M else .bad) := q
      by_cases c : n = 1
      · rw [if_pos c] at q'
        have rx0 := rx
        simp only [Rp] at rx
        obtain ⟨a, vs, e1, h1, h2⟩ := rx
        have e2 : y = .int n := by simpa only [Rp] using ry
        subst c
        refine ⟨a, vs, e1, e2, h1.sq, q' _ ad H Fr.refl k ?_⟩
        rw [← e1]
        exact rx0
      · rw [if_neg c] at q'
        exact q'.elim
    | _ => exact q.elim
  | _ => exact q.elim
theorem ne_of {W : Wd} {i : List D} {vs : List V} (r : RpL K W i vs) (h : i ≠ []) : vs ≠ [] := fun e => h (by
  have := r.len
  rw [e] at this
  exact List.length_eq_zero_iff.mp this.symm)
theorem ops_mulT0 : OpS K (rRepT0 K) fMulT0 := fun hid M ad H dx dy x y Q E k rx ry q => by
  cases dx with
  | tup i =>
    cases dy with
    | int n =>
      have q' : (pV K hid Q E).P M ad H (if i ≠ [] ∧ -1000 ≤ n ∧ n ≤ 0 then .ok (.tup []) M else .bad) := q
      by_cases c : i ≠ [] ∧ -1000 ≤ n ∧ n ≤ 0
      · rw [if_pos c] at q'
        simp only [Rp] at rx
        obtain ⟨a, vs, e1, h1, h2⟩ := rx
        have e2 : y = .int n := by simpa only [Rp] using ry
        refine ⟨a, n, vs, e1, e2, h1.sq, ne_of h2 c.1, c.2.1, c.2.2, fun p hp => ?_⟩
        obtain ⟨f, k2, r2⟩ := new_tup k hp RpL.nil
        exact q' _ _ _ f k2 r2
      · rw [if_neg c] at q'
        exact q'.elim
    | _ => exact q.elim
  | _ => exact q.elim
theorem ops_mulT2 : OpS K (rRepT K) fMulT2 := fun hid M ad H dx dy x y Q E k rx ry q => by
  cases dx with
  | tup i =>
    cases dy with
    | int n =>
      have q' : (pV K hid Q E).P M ad H (if i ≠ [] ∧ 2 ≤ n ∧ n ≤ 1000 ∧ i.length ≤ 1000 then .ok (.tup (List.replicate n.toNat i).flatten) M else .bad) := q
      by_cases c : i ≠ [] ∧ 2 ≤ n ∧ n ≤ 1000 ∧ i.length ≤ 1000
      · rw [if_pos c] at q'
        simp only [Rp] at rx
        obtain ⟨a, vs, e1, h1, h2⟩ := rx
        have e2 : y = .int n := by simpa only [Rp] using ry
        refine ⟨a, n, vs, e1, e2, h1.sq, ne_of h2 c.1, c.2.1, c.2.2.1, by rw [h2.len]; exact c.2.2.2, fun p hp => ?_⟩
        have r2 : ∀ m : Nat, RpL K (wd hid M ad H) (List.replicate m i).flatten (List.replicate m vs).flatten := fun m => by
          induction m with
          | zero => exact RpL.nil
          | succ m ih =>
            rw [List.replicate_succ, List.replicate_succ, List.flatten_cons, List.flatten_cons]
            exact h2.append ih
        obtain ⟨f, k2, r3⟩ := new_tup k hp (r2 n.toNat)
        exact q' _ _ _ f k2 r3
      · rw [if_neg c] at q'
        exact q'.elim
    | _ => exact q.elim
  | _ => exact q.elim
end
def fMulT : D → D → Mem → Res D := fun x y M => (fMulT1 x y M).els ((fMulT0 x y M).els (fMulT2 x y M))
theorem ops_mulT {K : PySem.W.Frag} : OpS K (rRepTA K) fMulT := ops_mulT1.or (ops_mulT0.or ops_mulT2)
def rMul4 (K : PySem.W.Frag) : R2 := fun x y H Q => rMul3 x y H Q ∨ rRepTA K x y H Q
def fMul4 : D → D → Mem → Res D := fun x y M => (fMul3 x y M).els (fMulT x y M)
theorem opr_mul4 {X : Cx} : OpR X (binaryOp .Mult) (rMul4 X.K) := opr_mul3.or op_repTA
theorem mul4K {X : Cx} {K : PySem.W.Frag} (h : X.K = K) : OpR X (binaryOp .Mult) (rMul4 K) := by subst h; exact opr_mul4
theorem ops_mul4 {K : PySem.W.Frag} : OpS K (rMul4 K) fMul4 := ops_mul3.or ops_mulT
theorem nd_ne {as : List Addr} (h : as.Nodup) (i j : Nat) (hij : i ≠ j) {a b : Addr} (hi : as[i]? = some a) (hj : as[j]? = some b) : (a == b) = false := beq_eq_false_iff_ne.mpr fun e => by
  subst e
  obtain ⟨h1, h2⟩ := List.getElem?_eq_some_iff.mp hi
  obtain ⟨h3, h4⟩ := List.getElem?_eq_some_iff.mp hj
  rcases Nat.lt_or_gt_of_ne hij with l | l
  · exact List.pairwise_iff_getElem.mp h i j h1 h3 l (h2.trans h4.symm)
  · exact List.pairwise_iff_getElem.mp h j i h3 h1 l (h4.trans h2.symm)
def gTL (K : PySem.W.Frag) (n : Nat) (t : TGs) : TG := fun v σ H Q => gTup K n t v σ H Q ∨ gLst K n t v σ H Q
theorem pg_tl {X : Cx} {K : PySem.W.Frag} (h : X.K = K) {es : List Expr} {k : Nat} {t : TGs} {n : Nat} {pos : Pos} (hc : X.calm = true) (hh : PGs X es t)
    (hn : (assignEach es X.env).length = n := by rfl) (hst : (assignEach es X.env).findIdx? (·.1) = none := by rfl) : PG X (.Tuple es k pos) (gTL K n t) := by
  subst h
  exact ⟨fun pins s σ H v u Q I r hw => hw.elim ((pg_tup hc hh hn hst).run pins s σ H v u Q I r) ((pg_lst hc hh hn hst).run pins s σ H v u Q I r)⟩
def mgTL (n : Nat) (m : SGs) : SG := fun d ρ => match d with
  | .tup ds => if ds.length = n then m ds ρ else none
  | .lst ds => if ds.length = n then m ds ρ else none
  | _ => none
theorem sndg_tl {K : PySem.W.Frag} {n : Nat} {g : TGs} {m : SGs} {is : List Nat} (h1 : SndGs K g m is) : SndG K (gTL K n g) (mgTL n m) is := fun hid σ ρ ρ' M ad H d v R st r e h => by
  cases d with
  | tup ds =>
    simp only [Rp] at r
    obtain ⟨a, vs, e1, r1, r2⟩ := r
    have e' : (if ds.length = n then m ds ρ else none) = some ρ' := e
    by_cases c : ds.length = n
    · rw [if_pos c] at e'
      exact .inl ⟨a, vs, e1, r1.sq, by rw [r2.len]; exact c, h1 hid σ ρ ρ' M ad H ds vs R st r2 e' h⟩
    · rw [if_neg c] at e'
      cases e'
  | lst ds =>
    simp only [Rp] at r
    obtain ⟨a, vs, e1, r1, r2⟩ := r
    have e' : (if ds.length = n then m ds ρ else none) = some ρ' := e
    by_cases c : ds.length = n
    · rw [if_pos c] at e'
      exact .inr ⟨a, vs, e1, .inl (.inl r1.1), by rw [r2.len]; exact c, h1 hid σ ρ ρ' M ad H ds vs R st r2 e' h⟩
    · rw [if_neg c] at e'
      cases e'
  | _ => cases e
end LM

end
section
set_option maxHeartbeats 4000000
namespace LM
open PySem PySem.Spec PyProof.Rows L2 NdefX DL StX SU
section
variable {CX : CXT} {P : Program} {w : World} {K : PySem.W.Frag} {mg : Str → Option Value} {base : Heap} {x qual : Str} {params : Arguments} {body : List Stmt} {scope : Scope} {dvs : List V} {kws : List (Str × V)} {file : Str} {D f cc cda : Addr} {fd : FuncData} {N ps : List Str} {k np : Nat}
theorem FunS.binds0 (F : FunS K x qual params body scope [] kws file D f cc cda fd) (n : Nat) (hk : kws ≠ []) (hn : n + kws.length = ps.length)
    (h : ∀ (D : Addr) (doc pm : Value) (an : Option Addr) (cdv ct : Value) (cc : Addr) (us ks : List Value), us.length = n → ks.length = kws.length →
      KwChain D ((kws.map (·.1)).zip ks) (bindArgs (PySem.W.ksFn x qual params body scope .none (.ref D) doc pm an cdv ct cc) ⟨us, []⟩) (ps.zip (us ++ ks))) : ∃ ds, Vals (kws.map (·.2)) ds ∧ Binds K fd ps ds := by
  obtain ⟨oc, od, dV, kV, doc, pm, an, ct, osl, rfl, lk, hcd, hD, hK⟩ := F.ex
  rcases hD with ⟨_, rfl⟩ | ⟨e, _⟩
  · rcases hK with e | ⟨D, rfl, hq⟩
    · exact absurd e hk
    · obtain ⟨ks, hl, rk, hks⟩ := kwd_vals hq
      refine ⟨ks, rk, fun s us X hlen => ?_⟩
      have l2 : us.length = n := by
        rw [List.length_append, hl] at hlen
        omega
      exact BindsTo.of_looks fun M => KwChain.looks X hks (h D doc pm an _ ct cc us ks l2 hl)
  · exact absurd rfl e
theorem FunS.kbinds0 (F : FunS K x qual params body scope [] kws file D f cc cda fd) (n : Nat) (ks : List Str) (ms : List (Str × V)) (g : {α : Type} → List α → List α → List α → List α) (hk : kws ≠ []) (hms : ∀ q ∈ ms, q ∈ kws)
    (hrel : ∀ {vs mz zs : List V} {us mv ws : List Value}, Vals vs us → Vals mz mv → Vals zs ws → Vals (g vs mz zs) (g us mv ws))
    (h : ∀ (D : Addr) (doc pm : Value) (an : Option Addr) (cdv ct : Value) (cc : Addr) (us mv ws : List Value), us.length = n → mv.length = ms.length → ws.length = ks.length →
      KwChain D ((ms.map (·.1)).zip mv) (bindArgs (PySem.W.ksFn x qual params body scope .none (.ref D) doc pm an cdv ct cc) ⟨us, ks.zip ws⟩) (ps.zip (g us mv ws))) :
    ∃ mv : List Value, KBn K fd ps n ks (fun us ws => g us mv ws) (fun vs zs => g vs (ms.map (·.2)) zs) := by
  obtain ⟨oc, od, dV, kV, doc, pm, an, ct, osl, rfl, lk, hcd, hD, hK⟩ := F.ex
  rcases hD with ⟨_, rfl⟩ | ⟨e, _⟩
  · rcases hK with e | ⟨D, rfl, hq⟩
    · exact absurd e hk
    · obtain ⟨mv, hl, rk, hks⟩ := kwd_vals (ms := ms) fun q hm => hq q (hms q hm)
      exact ⟨mv, ⟨fun s us ws X l1 l2 => BindsTo.of_looks fun M => KwChain.looks X hks (h D doc pm an _ ct cc us mv ws l1 hl l2), fun r1 r2 => hrel r1 rk r2⟩⟩
  · exact absurd rfl e
/-- f(a, .., *v), its one keyword-only parameter left out: what is bound -/
def BStar (K : PySem.W.Frag) (fd : FuncData) (np : Nat) (ps : List Str) (gU : List Value → Value → List Value) : Prop :=
  ∀ (M : Model) (A : Around) (Q : List (Str × Value) → Shared → Prop) (E : Value → Shared → Prop) (s : Shared) (us rest : List Value), us.length = np → K.In s.heap →
    wpAny M A (newTuple rest >>= fun t => pure (ps.zip (gU us t))) Q E s → wpAny M A (bindArgs fd ⟨us ++ rest, []⟩) Q E s
theorem FunS.bstar {q : Str × V} (F : FunS K x qual params body scope [] [q] file D f cc cda fd) {g : List Value → Value → Value → List Value}
    (h : ∀ (D : Addr) (doc pm : Value) (an : Option Addr) (cdv ct : Value) (cc : Addr) (us rest : List Value) (v : Value), us.length = np →
      ∃ (β γ : Type) (k1 : Option Value → Sem β) (k2 : β → Sem γ) (k3 : γ → Sem (List (Str × Value))) (a : β), bindArgs (PySem.W.ksFn x qual params body scope .none (.ref D) doc pm an cdv ct cc) ⟨us ++ rest, []⟩ = ((nsGet D q.1 >>= k1) >>= k2) >>= k3 ∧ k1 (some v) = pure a ∧
        (k2 a >>= k3) = (newTuple rest >>= fun t => pure (ps.zip (g us v t)))) : ∃ v : Value, RelV q.2 v ∧ BStar K fd np ps (fun us t => g us v t) := by
  obtain ⟨oc, od, dV, kV, doc, pm, an, ct, osl, rfl, lk, hcd, hD, hK⟩ := F.ex
  rcases hD with ⟨_, rfl⟩ | ⟨e, _⟩
  · rcases hK with e | ⟨D, rfl, hq⟩
    · cases e
    · obtain ⟨v, e1, e2⟩ := hq q (List.mem_cons_self ..)
      refine ⟨v, e2, fun M A Q E s us rest l X hw => ?_⟩
      obtain ⟨β, γ, k1, k2, k3, a, z1, z2, z3⟩ := h D doc pm an _ ct cc us rest v l
      rw [z1, bind_assoc]
      have l1 : PySem.W.Looks M s.heap (nsGet D q.1 >>= k1) a := (PySem.W.looks_nsIn X e1).andThen (PySem.W.Looks.of_pure z2)
      refine wpAny_bind (l1 A _ E s (fun _ _ e => e) ?_)
      rw [z3]
      exact hw
  · exact absurd rfl e
theorem fn_starKD {gV : List V → V → List V} {gU : List Value → Value → List Value} {sp : Sp} (F : FunS K x qual params body scope dvs kws file D f cc cda fd) (S : NScope N ps ["__class__"] scope) (hCX : CXUp CX)
    (hg : ∀ {vs : List V} {us : List Value} {v : V} {u : Value}, Vals vs us → L2.RelV v u → Vals (gV vs v) (gU us u))
    (hb : BStar K fd np ps gU)
    (len : ∀ vs H Q E, sp vs H Q E → vs.length = ps.length)
    (hbody : ∀ (A : Around) (outer : List Env) (s : Shared) (H : Hp) (vs : List V) (Q : VK) (E : XK), Room k (A.deeper (envF (nf x qual params body scope cc cda) f s.heap.objs.size)) → sp vs H Q E →
      ∃ t, PSAs (ncx CX P w K mg base N (nf x qual params body scope cc cda) f A outer s H E) body body t ∧ t { nx := fun _ H' => Q .non H', rt := Q } (startF N vs [some (.ref D)]) H) :
    FnKR P w K mg base CX (k + 1) f [] (fun _ vs H Q E => ∃ ws rest, vs = ws ++ rest ∧ ws.length = np ∧ rest.length ≤ sizeLine ∧ ∀ p, H p = Option.none → sp (gV ws (V.ref p)) (upd H p (.tup rest)) Q E) := by
  intro A outer s H us wv vs zs Q E hr e0 r rz hzl hsp
  obtain ⟨ws, rest, ev, hl, hz, hq⟩ := hsp
  subst ev
  obtain ⟨u1, u2, eu, r1, r2⟩ := vals_split r
  subst eu
  have hn : H s.heap.objs.size = Option.none := e0.hok.fresh (Nat.le_refl _)
  have hl1 : u1.length = np := by rw [← r1.length]; exact hl
  have hl2 : u2.length ≤ sizeLine := by rw [← r2.length]; exact hz
  have KX : K.In s.heap := e0.mod.kin.keeps fun b o e => (e0.bs b o e).1
  have ez : (([] : List Str).zip wv) = [] := rfl
  rw [ez]
  refine run_bndS F S hr e0 (G := fun xs H2 => ∃ p, H p = Option.none ∧ xs = gV ws (V.ref p) ∧ H2 = upd H p (.tup rest)) (fun A' Ex Q' h => ?_) fun s2 H2 xs ⟨p, hp, ex, eH⟩ hr' => ?_
  · refine hb _ _ _ _ _ u1 u2 hl1 KX ?_
    refine wpAny_bind (wpAny_newTuple (wpAny_pure ?_) hl2)
    have new : ObjOk P w (upd H s.heap.objs.size (.tup rest)) (s.heap.push ({ cls := .type "tuple", data := .seq u2.toArray } : Obj)) s.heap.objs.size (.tup rest) := ⟨hz, u2, r2, ⟨_, Heap.get?_push_size _ rfl, rfl, _, rfl⟩⟩
    have un := un_laid (fs := frs outer) (s := s) (o := ({ cls := .type "tuple", data := .seq u2.toArray } : Obj)) (u := .tup rest) hn
    exact h _ _ (gV ws (V.ref s.heap.objs.size)) (gU u1 (Value.ref s.heap.objs.size)) (env0_laid e0 new) un rfl (fun e s' => hCX outer s H _ _ E e s' un (fun b o q => Heap.get?_push_of_some _ q) rfl) (hg r1 rfl)
      (len _ _ _ _ (hq _ hn)) ⟨_, hn, rfl, rfl⟩
  · subst ex eH
    exact hbody A outer s2 _ _ Q E hr' (hq p hp)
end
end LM

end
section
set_option maxHeartbeats 4000000
namespace G
open PySem PySem.Spec PyProof.Rows L2 DL
def top (i : Nat) : Stmt := PySem.Challenge.pw_outvoted_k04_parts_refused.main.body.getD i (.Pass ⟨0, 0, 0, 0⟩)
abbrev lx_0 : Expr := ((LP.elts (LP.val ((LP.body ((defBody (top 30)).getD 1 LP.s0)).getD 3 LP.s0))).getD 10 LP.e0)
def LC0 : LamC := ⟨0, (("law" : PySem.Str) ++ ".<locals>.") ++ "<lambda>", LP.lps lx_0, LP.lbody lx_0, LP.lscope lx_0, [V.int 0], (["_law_a", "_law_b", "_law_c", "_law_odd"] : List PySem.Str)⟩
abbrev lx_1 : Expr := ((LP.elts (LP.val ((LP.body ((defBody (top 30)).getD 1 LP.s0)).getD 3 LP.s0))).getD 9 LP.e0)
def LC1 : LamC := ⟨1, (("law" : PySem.Str) ++ ".<locals>.") ++ "<lambda>", LP.lps lx_1, LP.lbody lx_1, LP.lscope lx_1, [V.int 0], (["_law_a", "_law_b", "_law_odd", "_law_late", "_law_bad"] : List PySem.Str)⟩
abbrev lx_2 : Expr := ((LP.elts (LP.val ((LP.body ((defBody (top 30)).getD 1 LP.s0)).getD 3 LP.s0))).getD 8 LP.e0)
def LC2 : LamC := ⟨2, (("law" : PySem.Str) ++ ".<locals>.") ++ "<lambda>", LP.lps lx_2, LP.lbody lx_2, LP.lscope lx_2, [V.int 0], (["_law_odd", "_law_late", "_law_bad"] : List PySem.Str)⟩
abbrev lx_3 : Expr := ((LP.elts (LP.val ((LP.body ((defBody (top 30)).getD 1 LP.s0)).getD 3 LP.s0))).getD 7 LP.e0)
def LC3 : LamC := ⟨3, (("law" : PySem.Str) ++ ".<locals>.") ++ "<lambda>", LP.lps lx_3, LP.lbody lx_3, LP.lscope lx_3, [V.int 0], (["_law_a", "_law_b", "_law_odd"] : List PySem.Str)⟩
abbrev lx_4 : Expr := ((LP.elts (LP.val ((LP.body ((defBody (top 30)).getD 1 LP.s0)).getD 3 LP.s0))).getD 6 LP.e0)
def LC4 : LamC := ⟨4, (("law" : PySem.Str) ++ ".<locals>.") ++ "<lambda>", LP.lps lx_4, LP.lbody lx_4, LP.lscope lx_4, [V.int 0], (["_law_a", "_law_odd", "_law_late"] : List PySem.Str)⟩
abbrev lx_5 : Expr := ((LP.elts (LP.val ((LP.body ((defBody (top 30)).getD 1 LP.s0)).getD 3 LP.s0))).getD 5 LP.e0)
def LC5 : LamC := ⟨5, (("law" : PySem.Str) ++ ".<locals>.") ++ "<lambda>", LP.lps lx_5, LP.lbody lx_5, LP.lscope lx_5, [V.int 0], (["_law_odd", "_law_late"] : List PySem.Str)⟩
abbrev lx_6 : Expr := ((LP.elts (LP.val ((LP.body ((defBody (top 30)).getD 1 LP.s0)).getD 3 LP.s0))).getD 4 LP.e0)
def LC6 : LamC := ⟨6, (("law" : PySem.Str) ++ ".<locals>.") ++ "<lambda>", LP.lps lx_6, LP.lbody lx_6, LP.lscope lx_6, [V.int 0], (["_law_a", "_law_b", "_law_c", "_law_odd", "_law_late"] : List PySem.Str)⟩
abbrev lx_7 : Expr := ((LP.elts (LP.val ((LP.body ((defBody (top 30)).getD 1 LP.s0)).getD 3 LP.s0))).getD 3 LP.e0)
def LC7 : LamC := ⟨7, (("law" : PySem.Str) ++ ".<locals>.") ++ "<lambda>", LP.lps lx_7, LP.lbody lx_7, LP.lscope lx_7, [V.int 0], (["_law_a", "_law_odd", "_law_late"] : List PySem.Str)⟩
abbrev lx_8 : Expr := ((LP.elts (LP.val ((LP.body ((defBody (top 30)).getD 1 LP.s0)).getD 3 LP.s0))).getD 2 LP.e0)
def LC8 : LamC := ⟨8, (("law" : PySem.Str) ++ ".<locals>.") ++ "<lambda>", LP.lps lx_8, LP.lbody lx_8, LP.lscope lx_8, [V.int 0], (["_law_odd", "_law_late"] : List PySem.Str)⟩
abbrev lx_9 : Expr := ((LP.elts (LP.val ((LP.body ((defBody (top 30)).getD 1 LP.s0)).getD 3 LP.s0))).getD 1 LP.e0)
def LC9 : LamC := ⟨9, (("law" : PySem.Str) ++ ".<locals>.") ++ "<lambda>", LP.lps lx_9, LP.lbody lx_9, LP.lscope lx_9, [V.int 0], (["_law_odd"] : List PySem.Str)⟩
abbrev lx_10 : Expr := ((LP.elts (LP.val ((LP.body ((defBody (top 30)).getD 1 LP.s0)).getD 3 LP.s0))).getD 0 LP.e0)
def LC10 : LamC := ⟨10, (("law" : PySem.Str) ++ ".<locals>.") ++ "<lambda>", LP.lps lx_10, LP.lbody lx_10, LP.lscope lx_10, [], (["_law_odd"] : List PySem.Str)⟩
abbrev lx_11 : Expr := ((LP.elts (LP.val ((LP.body ((defBody (top 30)).getD 1 LP.s0)).getD 5 LP.s0))).getD 5 LP.e0)
def LC11 : LamC := ⟨11, (("law" : PySem.Str) ++ ".<locals>.") ++ "<lambda>", LP.lps lx_11, LP.lbody lx_11, LP.lscope lx_11, [V.int 0], (["_law_a", "_law_b", "_law_c", "_law_many"] : List PySem.Str)⟩
abbrev lx_12 : Expr := ((LP.elts (LP.val ((LP.body ((defBody (top 30)).getD 1 LP.s0)).getD 5 LP.s0))).getD 4 LP.e0)
def LC12 : LamC := ⟨12, (("law" : PySem.Str) ++ ".<locals>.") ++ "<lambda>", LP.lps lx_12, LP.lbody lx_12, LP.lscope lx_12, [V.int 0], (["_law_a", "_law_b", "_law_c", "_law_bad"] : List PySem.Str)⟩
abbrev lx_13 : Expr := ((LP.elts (LP.val ((LP.body ((defBody (top 30)).getD 1 LP.s0)).getD 5 LP.s0))).getD 3 LP.e0)
def LC13 : LamC := ⟨13, (("law" : PySem.Str) ++ ".<locals>.") ++ "<lambda>", LP.lps lx_13, LP.lbody lx_13, LP.lscope lx_13, [V.int 0], (["_law_a", "_law_b", "_law_c", "_law_bad"] : List PySem.Str)⟩
abbrev lx_14 : Expr := ((LP.elts (LP.val ((LP.body ((defBody (top 30)).getD 1 LP.s0)).getD 5 LP.s0))).getD 2 LP.e0)
def LC14 : LamC := ⟨14, (("law" : PySem.Str) ++ ".<locals>.") ++ "<lambda>", LP.lps lx_14, LP.lbody lx_14, LP.lscope lx_14, [V.int 0], (["_law_a", "_law_bad"] : List PySem.Str)⟩
abbrev lx_15 : Expr := ((LP.elts (LP.val ((LP.body ((defBody (top 30)).getD 1 LP.s0)).getD 5 LP.s0))).getD 1 LP.e0)
def LC15 : LamC := ⟨15, (("law" : PySem.Str) ++ ".<locals>.") ++ "<lambda>", LP.lps lx_15, LP.lbody lx_15, LP.lscope lx_15, [V.int 0], (["_law_a", "_law_b", "_law_c", "_law_bad"] : List PySem.Str)⟩
abbrev lx_16 : Expr := ((LP.elts (LP.val ((LP.body ((defBody (top 30)).getD 1 LP.s0)).getD 5 LP.s0))).getD 0 LP.e0)
def LC16 : LamC := ⟨16, (("law" : PySem.Str) ++ ".<locals>.") ++ "<lambda>", LP.lps lx_16, LP.lbody lx_16, LP.lscope lx_16, [], (["_law_a", "_law_b", "_law_c", "_law_x"] : List PySem.Str)⟩
def LC : Nat → LamC
  | 0 => LC0
  | 1 => LC1
  | 2 => LC2
  | 3 => LC3
  | 4 => LC4
  | 5 => LC5
  | 6 => LC6
  | 7 => LC7
  | 8 => LC8
  | 9 => LC9
  | 10 => LC10
  | 11 => LC11
  | 12 => LC12
  | 13 => LC13
  | 14 => LC14
  | 15 => LC15
  | 16 => LC16
  | _ => LC0
def cl_0 (as : List Addr) : List (PySem.Str × Addr) := cloFrom ((["_law_a", "_law_b", "_law_c", "_law_x", "_law_odd", "_law_late", "_law_bad", "_law_many"] : List PySem.Str).zip as) (LC 0).scope.names []
def cl_1 (as : List Addr) : List (PySem.Str × Addr) := cloFrom ((["_law_a", "_law_b", "_law_c", "_law_x", "_law_odd", "_law_late", "_law_bad", "_law_many"] : List PySem.Str).zip as) (LC 1).scope.names []
def cl_2 (as : List Addr) : List (PySem.Str × Addr) := cloFrom ((["_law_a", "_law_b", "_law_c", "_law_x", "_law_odd", "_law_late", "_law_bad", "_law_many"] : List PySem.Str).zip as) (LC 2).scope.names []
def cl_3 (as : List Addr) : List (PySem.Str × Addr) := cloFrom ((["_law_a", "_law_b", "_law_c", "_law_x", "_law_odd", "_law_late", "_law_bad", "_law_many"] : List PySem.Str).zip as) (LC 3).scope.names []
def cl_4 (as : List Addr) : List (PySem.Str × Addr) := cloFrom ((["_law_a", "_law_b", "_law_c", "_law_x", "_law_odd", "_law_late", "_law_bad", "_law_many"] : List PySem.Str).zip as) (LC 4).scope.names []
def cl_5 (as : List Addr) : List (PySem.Str × Addr) := cloFrom ((["_law_a", "_law_b", "_law_c", "_law_x", "_law_odd", "_law_late", "_law_bad", "_law_many"] : List PySem.Str).zip as) (LC 5).scope.names []
def cl_6 (as : List Addr) : List (PySem.Str × Addr) := cloFrom ((["_law_a", "_law_b", "_law_c", "_law_x", "_law_odd", "_law_late", "_law_bad", "_law_many"] : List PySem.Str).zip as) (LC 6).scope.names []
def cl_7 (as : List Addr) : List (PySem.Str × Addr) := cloFrom ((["_law_a", "_law_b", "_law_c", "_law_x", "_law_odd", "_law_late", "_law_bad", "_law_many"] : List PySem.Str).zip as) (LC 7).scope.names []
def cl_8 (as : List Addr) : List (PySem.Str × Addr) := cloFrom ((["_law_a", "_law_b", "_law_c", "_law_x", "_law_odd", "_law_late", "_law_bad", "_law_many"] : List PySem.Str).zip as) (LC 8).scope.names []
def cl_9 (as : List Addr) : List (PySem.Str × Addr) := cloFrom ((["_law_a", "_law_b", "_law_c", "_law_x", "_law_odd", "_law_late", "_law_bad", "_law_many"] : List PySem.Str).zip as) (LC 9).scope.names []
def cl_10 (as : List Addr) : List (PySem.Str × Addr) := cloFrom ((["_law_a", "_law_b", "_law_c", "_law_x", "_law_odd", "_law_late", "_law_bad", "_law_many"] : List PySem.Str).zip as) (LC 10).scope.names []
def cl_11 (as : List Addr) : List (PySem.Str × Addr) := cloFrom ((["_law_a", "_law_b", "_law_c", "_law_x", "_law_odd", "_law_late", "_law_bad", "_law_many"] : List PySem.Str).zip as) (LC 11).scope.names []
def cl_12 (as : List Addr) : List (PySem.Str × Addr) := cloFrom ((["_law_a", "_law_b", "_law_c", "_law_x", "_law_odd", "_law_late", "_law_bad", "_law_many"] : List PySem.Str).zip as) (LC 12).scope.names []
def cl_13 (as : List Addr) : List (PySem.Str × Addr) := cloFrom ((["_law_a", "_law_b", "_law_c", "_law_x", "_law_odd", "_law_late", "_law_bad", "_law_many"] : List PySem.Str).zip as) (LC 13).scope.names []
def cl_14 (as : List Addr) : List (PySem.Str × Addr) := cloFrom ((["_law_a", "_law_b", "_law_c", "_law_x", "_law_odd", "_law_late", "_law_bad", "_law_many"] : List PySem.Str).zip as) (LC 14).scope.names []
def cl_15 (as : List Addr) : List (PySem.Str × Addr) := cloFrom ((["_law_a", "_law_b", "_law_c", "_law_x", "_law_odd", "_law_late", "_law_bad", "_law_many"] : List PySem.Str).zip as) (LC 15).scope.names []
def cl_16 (as : List Addr) : List (PySem.Str × Addr) := cloFrom ((["_law_a", "_law_b", "_law_c", "_law_x", "_law_odd", "_law_late", "_law_bad", "_law_many"] : List PySem.Str).zip as) (LC 16).scope.names []
def m_law_bag : SS :=
  (mRet (mOwn (mLst (mCons (mOwn (mLc (mIAny (mSl (mVar 0) mNoPart (mPart (mC (.int 63))))) (mgName 1) mYes (mCB (f1 fInt1) (mCons (mVar 1) mNil)) [1])) (mCons (mC (.int 0)) (mCons (mOp fAdd (mC (.int 5787)) (mOp LM.fMul4 (mC (.int 37)) (mCB fLenA (mCons (mSl (mVar 0) mNoPart (mPart (mC (.int 63)))) mNil)))) mNil))))))
def g_law_bag : GF := mBody 2 m_law_bag
def m_law_take : SS :=
  (mSeq (mIfS (mAnd (mTest (mOp fEqA (mOp fIx (mVar 0) (mC (.int 1))) (mC (.int 0)))) (mTest (mOp fNeA (mOp fIx (mVar 0) (mC (.int 0))) (mLst mNil)))) (mSeq (mAsg (mPopAt (mOp fIx (mVar 0) (mC (.int 0))) 0) (mgName 2))
    (mIfS (mTest (mOp fGe (mVar 2) (mOp fPow (mC (.int 10)) (mC (.int 18))))) (mSetIx (mVar 2) (mVar 0) (mC (.int 1))) (mSetIx (mOp fMod (mCB (f1 fInt1) (mCons (mOp fAdd (mOp fAdd (mOp LM.fMul4 (mOp fIx (mVar 0) (mC (.int 2))) (mC (.int 40014))) (mOp LM.fMul4 (mVar 2) (mC (.int 7919)))) (mC (.int 31))) mNil)) (mC (.int 2147483563))) (mVar 0) (mC (.int 2))))) mNext)
    (mSeq (mIfS (mTest (mOp fGt (mOp fIx (mVar 0) (mC (.int 1))) (mC (.int 0)))) (mSeq (mAsg (mOp fMod (mCB (f1 fInt1) (mCons (mOp fIx (mVar 0) (mC (.int 1))) mNil)) (mVar 1)) (mgName 3))
    (mSeq (mSetIx (mOp fFdiv (mCB (f1 fInt1) (mCons (mOp fIx (mVar 0) (mC (.int 1))) mNil)) (mVar 1)) (mVar 0) (mC (.int 1)))
    (mRet (mVar 3)))) mNext)
    (mSeq (mAsg (mOp fMod (mCB (f1 fInt1) (mCons (mOp LM.fMul4 (mOp fIx (mVar 0) (mC (.int 2))) (mOp fIx (mVar 0) (mC (.int 2)))) mNil)) (mC (.int 2147483563))) (mgName 4))
    (mSeq (mSetIx (mOp fMod (mCB (f1 fInt1) (mCons (mOp fAdd (mOp fAdd (mOp LM.fMul4 (mVar 4) (mC (.int 3041))) (mOp LM.fMul4 (mOp fIx (mVar 0) (mC (.int 2))) (mC (.int 40692)))) (mC (.int 12211))) mNil)) (mC (.int 2147483563))) (mVar 0) (mC (.int 2)))
    (mRet (mOp fMod (mCB (f1 fInt1) (mCons (mOp fAdd (mOp fFdiv (mOp fIx (mVar 0) (mC (.int 2))) (mC (.int 37))) (mOp LM.fMul4 (mOp fMod (mCB (f1 fInt1) (mCons (mOp fIx (mVar 0) (mC (.int 2))) mNil)) (mC (.int 5003))) (mC (.int 89)))) mNil)) (mVar 1)))))))
def g_law_take : GF := mBody 5 m_law_take
def m_law_of : SS :=
  (mRet (mOp fIx (mVar 1) (mCall 2 g_law_take [] (mCons (mVar 0) (mCons (mCB fLenA (mCons (mVar 1) mNil)) mNil)))))
def g_law_of : GF := mBody 2 m_law_of
def m_law_names : SS :=
  (mSeq (mAsg (mC (.str "abcdefghijklmnopqrstuvwxyz")) (mgName 2))
    (mSeq (mAsg (mM1 fJoin (mC (.str "")) (mLc (mRng1 (mCons (mCall 2 g_law_take [] (mCons (mVar 0) (mCons (mC (.int 4)) mNil))) mNil)) (mgName 6) mYes (mCall 2 g_law_of [] (mCons (mVar 0) (mCons (mVar 2) mNil))) [6])) (mgName 3))
    (mSeq (mAsg (mTup (mCons (mCall 2 g_law_take [] (mCons (mVar 0) (mCons (mOp fAdd (mCB fLenA (mCons (mVar 3) mNil)) (mC (.int 1))) mNil))) (mCons (mCall 2 g_law_take [] (mCons (mVar 0) (mCons (mC (.int 26)) mNil))) mNil))) (LM.mgTL 2 (mgCons (mgName 4) (mgCons (mgName 5) mgNil))))
    (mRet (mLc (mRng1 (mCons (mVar 1) mNil)) (mgName 6) mYes (mOp fAdd (mOp fAdd (mSl (mVar 3) mNoPart (mPart (mVar 4))) (mOp fIx (mVar 2) (mOp fMod (mCB (f1 fInt1) (mCons (mOp fAdd (mVar 5) (mOp LM.fMul4 (mC (.int 3)) (mVar 6))) mNil)) (mC (.int 26))))) (mSl (mVar 3) (mPart (mVar 4)) mNoPart)) [6])))))
def g_law_names : GF := mBody 7 m_law_names
def m_law_same (rec : GF) : SS :=
  (mSeq (mIfS (mOr (mTest (mOp (fIsN false) (mVar 1) (mC .non))) (mTest (mOp (fIsN false) (mVar 0) (mC .non)))) (mRet (mB (mAnd (mTest (mOp (fIsN false) (mVar 1) (mC .non))) (mTest (mOp (fIsN false) (mVar 0) (mC .non)))))) mNext)
    (mSeq (mIfS (mOr (mTest (mCB fIsi (mCons (mVar 1) (mCons (mC (.ty "bool")) mNil)))) (mTest (mCB fIsi (mCons (mVar 0) (mCons (mC (.ty "bool")) mNil))))) (mRet (mB (mAnd (mTest (mCB fIsi (mCons (mVar 1) (mCons (mC (.ty "bool")) mNil)))) (mTest (mB (mAnd (mTest (mCB fIsi (mCons (mVar 0) (mCons (mC (.ty "bool")) mNil)))) (mTest (mOp fEqA (mVar 1) (mVar 0))))))))) mNext)
    (mSeq (mIfS (mTest (mCB fIsi (mCons (mVar 1) (mCons (mC (.ty "int")) mNil)))) (mRet (mB (mAnd (mTest (mCB fIsi (mCons (mVar 0) (mCons (mC (.ty "int")) mNil)))) (mTest (mOp fEqA (mVar 1) (mVar 0)))))) mNext)
    (mSeq (mIfS (mTest (mCB fIsi (mCons (mVar 1) (mCons (mC (.ty "str")) mNil)))) (mRet (mB (mAnd (mTest (mCB fIsi (mCons (mVar 0) (mCons (mC (.ty "str")) mNil)))) (mTest (mOp fEqA (mVar 1) (mVar 0)))))) mNext)
    (mSeq (mIfS (mAnd (mTest (mCB fIsi (mCons (mVar 1) (mCons (mC (.ty "list")) mNil)))) (mNot (mTest (mCB fIsi (mCons (mVar 0) (mCons (mC (.ty "list")) mNil)))))) (mRet (mC (.bl false))) mNext)
    (mSeq (mIfS (mAnd (mTest (mCB fIsi (mCons (mVar 1) (mCons (mC (.ty "tuple")) mNil)))) (mNot (mTest (mCB fIsi (mCons (mVar 0) (mCons (mC (.ty "tuple")) mNil)))))) (mRet (mC (.bl false))) mNext)
    (mRet (mB (mAnd (mTest (mOp fEqA (mCB fLenA (mCons (mVar 0) mNil)) (mCB fLenA (mCons (mVar 1) mNil)))) (mTest (mCB (f1 fAll) (mCons (mLc (mZip (mCons (mVar 0) (mCons (mVar 1) mNil))) (LM.mgTL 2 (mgCons (mgName 2) (mgCons (mgName 3) mgNil))) mYes (mCall 2 rec [] (mCons (mVar 2) (mCons (mVar 3) mNil))) [2, 3]) mNil))))))))))))
def g_law_same : Nat → GF
  | 0 => fun _ _ => .bad
  | n + 1 => mBody 4 (m_law_same (g_law_same n))
def m_is_name : SS :=
  (mSeq (mIfS (mOr (mNot (mTest (mCB fIsi (mCons (mVar 0) (mCons (mC (.ty "str")) mNil))))) (mNot (mTest (mChain fLe fLe (mC (.int 1)) (mCB fLenA (mCons (mVar 0) mNil)) (mC (.int 6)))))) (mRet (mC (.bl false))) mNext)
    (mRet (mCB (f1 fAll) (mCons (mLc (mIAny (mVar 0)) (mgName 1) mYes (mOp (fIn3 false) (mVar 1) (mC (.str "abcdefghijklmnopqrstuvwxyz"))) [1]) mNil))))
def g_is_name : GF := mBody 2 m_is_name
def m_check_names : SS :=
  (mFor (mIAny (mVar 0)) (mgName 1) (mIfS (mNot (mTest (mCall 1 g_is_name [] (mCons (mVar 1) mNil)))) (LM.mRaise "InvalidName" "InvalidName" (["value"] : List PySem.Str) (mCons (mVar 1) mNil)) mNext))
def g_check_names : GF := mBody 2 m_check_names
def m_Part_init : SS :=
  (mSeq (mDrop (mCall 1 g_check_names [] (mCons (mLst (mCons (mVar 1) mNil)) mNil)))
    (mSeq (mFldSet (["Part", "Source", "Box", "Store", "Voter"] : List PySem.Str) "name" (mVar 1) (mVar 0))
    (mFldSet (["Part", "Source", "Box", "Store", "Voter"] : List PySem.Str) "hard" (mVar 2) (mVar 0))))
def g_Part_init : GF := mBody 3 m_Part_init
def m_Box_init : SS :=
  (mSeq (mDrop (mCall 1 g_check_names [] (mCons (mLst (mCons (mVar 1) (mCons (mVar 2) (mStar (mVar 4) mNil)))) mNil)))
    (mSeq (mIfS (mTest (mOp fGt (mCB fLenA (mCons (mVar 4) mNil)) (mC (.int 3)))) (LM.mRaise "InvalidNumber" "InvalidNumber" (["value"] : List PySem.Str) (mCons (mCB fLenA (mCons (mVar 4) mNil)) mNil)) mNext)
    (mSeq (mDrop (SU.mSupK "Box" 0 3 1 1 g_Part_init (fun a b => a ++ b) (mCons (mVar 1) mNil) (mCons (mVar 3) mNil)))
    (mSeq (mFldSet (["Box"] : List PySem.Str) "function" (mVar 2) (mVar 0))
    (mFldSet (["Box"] : List PySem.Str) "heard" (mVar 4) (mVar 0))))))
def g_Box_init : GF := SU.mBodyS 6 "Box" m_Box_init
noncomputable def ml_0 : SE :=
  (SU.mMakeKR "Box" 5 3 0 g_Box_init (fun a t _ => a ++ [(D.bl false)] ++ [t]) (mCons (mVar 0) (mCons (mVar 1) (mCons (mVar 2) (mCons (mVar 3) (mCons (mVar 2) (mCons (mVar 2) (mCons (mVar 2) mNil))))))) mNil)
noncomputable def gl_0 : GF := LM.mLamB ml_0
def m_is_number : SS :=
  (mRet (mB (mAnd (mTest (mCB fIsi (mCons (mVar 0) (mCons (mC (.ty "int")) mNil)))) (mTest (mB (mNot (mTest (mCB fIsi (mCons (mVar 0) (mCons (mC (.ty "bool")) mNil))))))))))
def g_is_number : GF := mBody 1 m_is_number
def m_Voter_init : SS :=
  (mSeq (mDrop (mCall 1 g_check_names [] (mCons (mLst (mCons (mVar 1) (mStar (mVar 4) mNil))) mNil)))
    (mSeq (mIfS (mNot (mTest (mChain fLe fLe (mC (.int 3)) (mCB fLenA (mCons (mVar 4) mNil)) (mC (.int 5))))) (LM.mRaise "InvalidNumber" "InvalidNumber" (["value"] : List PySem.Str) (mCons (mCB fLenA (mCons (mVar 4) mNil)) mNil)) mNext)
    (mSeq (mIfS (mOr (mNot (mTest (mCall 1 g_is_number [] (mCons (mVar 2) mNil)))) (mNot (mTest (mChain fLe fLe (mC (.int 1)) (mVar 2) (mCB fLenA (mCons (mVar 4) mNil)))))) (LM.mRaise "InvalidNumber" "InvalidNumber" (["value"] : List PySem.Str) (mCons (mVar 2) mNil)) mNext)
    (mSeq (mDrop (SU.mSupK "Voter" 0 3 1 1 g_Part_init (fun a b => a ++ b) (mCons (mVar 1) mNil) (mCons (mVar 3) mNil)))
    (mSeq (mFldSet (["Voter"] : List PySem.Str) "least" (mVar 2) (mVar 0))
    (mFldSet (["Voter"] : List PySem.Str) "heard" (mVar 4) (mVar 0)))))))
def g_Voter_init : GF := SU.mBodyS 6 "Voter" m_Voter_init
noncomputable def ml_1 : SE :=
  (SU.mMakeKR "Voter" 5 3 0 g_Voter_init (fun a t _ => a ++ [(D.bl false)] ++ [t]) (mCons (mVar 0) (mCons (mVar 4) (mCons (mVar 1) (mCons (mVar 2) (mCons (mVar 3) mNil))))) mNil)
noncomputable def gl_1 : GF := LM.mLamB ml_1
noncomputable def ml_10 : SE :=
  (mMake "Part" 3 g_Part_init [(D.bl false)] (mCons (mVar 0) mNil))
noncomputable def gl_10 : GF := LM.mLamB ml_10
noncomputable def ml_11 : SE :=
  (SU.mMakeKR "Voter" 5 3 1 g_Voter_init (fun a t b => a ++ b ++ [t]) (mCons (mVar 0) (mCons (mVar 3) (mCons (mVar 1) (mCons (mVar 2) (mCons (mVar 1) (mCons (mVar 2) (mCons (mVar 1) mNil))))))) (mCons (mC (.bl true)) mNil))
noncomputable def gl_11 : GF := LM.mLamB ml_11
noncomputable def ml_12 : SE :=
  (SU.mMakeKR "Voter" 5 3 0 g_Voter_init (fun a t _ => a ++ [(D.bl false)] ++ [t]) (mCons (mVar 0) (mCons (mVar 3) (mCons (mVar 1) (mCons (mVar 1) (mCons (mVar 2) mNil))))) mNil)
noncomputable def gl_12 : GF := LM.mLamB ml_12
noncomputable def ml_13 : SE :=
  (SU.mMakeKR "Voter" 5 3 0 g_Voter_init (fun a t _ => a ++ [(D.bl false)] ++ [t]) (mCons (mVar 0) (mCons (mVar 3) (mCons (mVar 1) (mCons (mVar 1) (mCons (mVar 1) (mCons (mVar 2) (mCons (mVar 2) (mCons (mVar 2) mNil)))))))) mNil)
noncomputable def gl_13 : GF := LM.mLamB ml_13
noncomputable def ml_14 : SE :=
  (SU.mMakeKR "Voter" 5 3 0 g_Voter_init (fun a t _ => a ++ [(D.bl false)] ++ [t]) (mCons (mVar 0) (mCons (mVar 1) mNil)) mNil)
noncomputable def gl_14 : GF := LM.mLamB ml_14
noncomputable def ml_15 : SE :=
  (SU.mMakeKR "Voter" 5 3 0 g_Voter_init (fun a t _ => a ++ [(D.bl false)] ++ [t]) (mCons (mVar 0) (mCons (mVar 3) (mCons (mVar 1) (mCons (mVar 2) mNil)))) mNil)
noncomputable def gl_15 : GF := LM.mLamB ml_15
noncomputable def ml_16 : SE :=
  (SU.mMakeKR "Box" 5 3 0 g_Box_init (fun a t _ => a ++ [(D.bl false)] ++ [t]) (mCons (mVar 0) (mCons (mVar 1) (mCons (mVar 3) (mCons (mVar 3) (mCons (mVar 3) (mCons (mVar 2) mNil)))))) mNil)
noncomputable def gl_16 : GF := LM.mLamB ml_16
noncomputable def ml_2 : SE :=
  (SU.mMakeKR "Voter" 5 3 0 g_Voter_init (fun a t _ => a ++ [(D.bl false)] ++ [t]) (mCons (mVar 0) (mCons (mVar 2) (mCons (mVar 1) mNil))) mNil)
noncomputable def gl_2 : GF := LM.mLamB ml_2
def m_Store_init : SS :=
  (mSeq (mDrop (mCall 1 g_check_names [] (mCons (mLst (mCons (mVar 1) (mCons (mVar 2) (mCons (mVar 3) mNil)))) mNil)))
    (mSeq (mDrop (SU.mSupK "Store" 0 3 1 1 g_Part_init (fun a b => a ++ b) (mCons (mVar 1) mNil) (mCons (mVar 4) mNil)))
    (mSeq (mFldSet (["Store"] : List PySem.Str) "content" (mVar 2) (mVar 0))
    (mFldSet (["Store"] : List PySem.Str) "heard" (mTup (mCons (mVar 3) mNil)) (mVar 0)))))
def g_Store_init : GF := SU.mBodyS 6 "Store" m_Store_init
noncomputable def ml_3 : SE :=
  (mMakeK "Store" 5 0 3 g_Store_init (fun a b => LM.permL [1, 2, 3, 0] (a ++ [(D.bl false)] ++ b)) mNil (mCons (mVar 0) (mCons (mVar 1) (mCons (mVar 2) mNil))))
noncomputable def gl_3 : GF := LM.mLamB ml_3
noncomputable def ml_4 : SE :=
  (mMake "Store" 5 g_Store_init [(D.bl false)] (mCons (mVar 0) (mCons (mVar 1) (mCons (mVar 2) mNil))))
noncomputable def gl_4 : GF := LM.mLamB ml_4
noncomputable def ml_5 : SE :=
  (mMake "Store" 5 g_Store_init [(D.bl false)] (mCons (mVar 0) (mCons (mVar 1) (mCons (mVar 1) mNil))))
noncomputable def gl_5 : GF := LM.mLamB ml_5
noncomputable def ml_6 : SE :=
  (SU.mMakeKR "Box" 5 3 0 g_Box_init (fun a t _ => a ++ [(D.bl false)] ++ [t]) (mCons (mVar 0) (mCons (mVar 1) (mCons (mVar 2) (mCons (mVar 3) (mCons (mVar 4) mNil))))) mNil)
noncomputable def gl_6 : GF := LM.mLamB ml_6
noncomputable def ml_7 : SE :=
  (SU.mMakeKR "Box" 5 3 0 g_Box_init (fun a t _ => a ++ [(D.bl false)] ++ [t]) (mCons (mVar 0) (mCons (mVar 1) (mCons (mVar 2) mNil))) mNil)
noncomputable def gl_7 : GF := LM.mLamB ml_7
noncomputable def ml_8 : SE :=
  (SU.mMakeKR "Box" 5 3 0 g_Box_init (fun a t _ => a ++ [(D.bl false)] ++ [t]) (mCons (mVar 0) (mCons (mVar 1) mNil)) mNil)
noncomputable def gl_8 : GF := LM.mLamB ml_8
def m_Source_init : SS :=
  (mDrop (SU.mSup "Source" 0 3 g_Part_init [(D.bl false)] (mCons (mVar 1) mNil)))
def g_Source_init : GF := SU.mBodyS 3 "Source" m_Source_init
noncomputable def ml_9 : SE :=
  (mMake "Source" 2 g_Source_init [] (mCons (mVar 0) mNil))
noncomputable def gl_9 : GF := LM.mLamB ml_9
noncomputable def m_law_field : SS :=
  (mSeq (mIfS (mTest (mOp (fIn3 false) (LM.mCau (["InvalidName", "InvalidNumber", "NothingLeft"] : List PySem.Str) 0 "code") (mTup (mCons (mC (.str "InvalidName")) (mCons (mC (.str "InvalidNumber")) (mCons (mC (.str "InvalidLimit")) (mCons (mC (.str "DuplicateName")) (mCons (mC (.str "UnknownName")) mNil)))))))) (mRet (mTup (mCons (LM.mCau (["InvalidName", "InvalidNumber", "NothingLeft"] : List PySem.Str) 0 "value") mNil))) mNext)
    (mSeq (mIfS (mTest (mOp (fIn3 false) (LM.mCau (["InvalidName", "InvalidNumber", "NothingLeft"] : List PySem.Str) 0 "code") (mTup (mCons (mC (.str "InvalidPart")) (mCons (mC (.str "InvalidHistory")) (mCons (mC (.str "InvalidWish")) (mCons (mC (.str "InvalidOffer")) (mCons (mC (.str "InvalidCommand")) mNil)))))))) (mRet (mTup (mCons (LM.mCau (["InvalidName", "InvalidNumber", "NothingLeft"] : List PySem.Str) 0 "at") mNil))) mNext)
    (mSeq (mIfS (mTest (mOp (fIn3 false) (LM.mCau (["InvalidName", "InvalidNumber", "NothingLeft"] : List PySem.Str) 0 "code") (mTup (mCons (mC (.str "InvalidTable")) (mCons (mC (.str "InvalidValue")) mNil))))) (mRet (mTup (mCons (LM.mCau (["InvalidName", "InvalidNumber", "NothingLeft"] : List PySem.Str) 0 "name") mNil))) mNext)
    (mSeq (mIfS (mTest (mOp fEqA (LM.mCau (["InvalidName", "InvalidNumber", "NothingLeft"] : List PySem.Str) 0 "code") (mC (.str "TooMany")))) (mRet (mTup (mCons (LM.mCau (["InvalidName", "InvalidNumber", "NothingLeft"] : List PySem.Str) 0 "subject") (mCons (LM.mCau (["InvalidName", "InvalidNumber", "NothingLeft"] : List PySem.Str) 0 "most") mNil)))) mNext)
    (mSeq (mIfS (mTest (mOp fEqA (LM.mCau (["InvalidName", "InvalidNumber", "NothingLeft"] : List PySem.Str) 0 "code") (mC (.str "InvalidText")))) (mRet (mTup (mCons (LM.mCau (["InvalidName", "InvalidNumber", "NothingLeft"] : List PySem.Str) 0 "line") mNil))) mNext)
    (mSeq (mIfS (mTest (mOp fEqA (LM.mCau (["InvalidName", "InvalidNumber", "NothingLeft"] : List PySem.Str) 0 "code") (mC (.str "OtherWires")))) (mRet (mTup (mCons (LM.mCau (["InvalidName", "InvalidNumber", "NothingLeft"] : List PySem.Str) 0 "function") mNil))) mNext)
    (mSeq (mIfS (mTest (mOp fEqA (LM.mCau (["InvalidName", "InvalidNumber", "NothingLeft"] : List PySem.Str) 0 "code") (mC (.str "Unlike")))) (mRet (mTup (mCons (LM.mCau (["InvalidName", "InvalidNumber", "NothingLeft"] : List PySem.Str) 0 "voter") mNil))) mNext)
    (mSeq (mIfS (mTest (mOp fEqA (LM.mCau (["InvalidName", "InvalidNumber", "NothingLeft"] : List PySem.Str) 0 "code") (mC (.str "Ring")))) (mRet (mTup (mCons (LM.mCau (["InvalidName", "InvalidNumber", "NothingLeft"] : List PySem.Str) 0 "loop") mNil))) mNext)
    (mRet (mIfE (mTest (mOp fEqA (LM.mCau (["InvalidName", "InvalidNumber", "NothingLeft"] : List PySem.Str) 0 "code") (mC (.str "Full")))) (mTup (mCons (LM.mCau (["InvalidName", "InvalidNumber", "NothingLeft"] : List PySem.Str) 0 "most") mNil)) (mTup mNil)))))))))))
noncomputable def g_law_field : LM.GC := LM.mBodyF 1 m_law_field
noncomputable def lamTab : List (LamC × GF) := [(LC 0, gl_0), (LC 1, gl_1), (LC 2, gl_2), (LC 3, gl_3), (LC 4, gl_4), (LC 5, gl_5), (LC 6, gl_6), (LC 7, gl_7), (LC 8, gl_8), (LC 9, gl_9), (LC 10, gl_10), (LC 11, gl_11), (LC 12, gl_12), (LC 13, gl_13), (LC 14, gl_14), (LC 15, gl_15), (LC 16, gl_16)]
noncomputable def m_law_why : SS :=
  (LM.mWhy lamTab 2 0 1 "told" "code" (["InvalidName", "InvalidNumber", "NothingLeft"] : List PySem.Str) g_law_field)
noncomputable def g_law_why : LM.GE := LM.mBodyE 3 2 m_law_why
noncomputable def m_law_whys : SS :=
  (mRet (mLc (mIAny (mVar 0)) (mgName 1) mYes (LM.mCallEnv 1 g_law_why 2 (mCons (mVar 1) mNil)) [1]))
noncomputable def g_law_whys : LM.GE := LM.mBodyE 3 2 m_law_whys
noncomputable def m_law (Pt : Addr) (as : List Addr) : SS :=
  (mSeq (mAsg (mCall 1 g_law_bag [] (mCons (mVar 0) mNil)) (mgName 1))
    (mSeq (mFor (mRng1 (mCons (mC (.int 5)) mNil)) (mgName 2) (mSeq (mAsg (mCall 2 g_law_names [] (mCons (mVar 1) (mCons (mC (.int 4)) mNil))) (LM.mgTL 4 (mgCons (mgName 3) (mgCons (mgName 4) (mgCons (mgName 5) (mgCons (mgName 6) mgNil))))))
    (mSeq (mAsg (mTup (mCons (mCall 2 g_law_of [] (mCons (mVar 1) (mCons (mLst (mCons (mC .non) (mCons (mC (.int 3)) (mCons (mC (.str "")) (mCons (mC (.str "A")) (mCons (mC (.str "abcdefg")) (mCons (mC (.bl true)) (mCons (mTup (mCons (mC (.str "a")) mNil)) (mCons (mLst (mCons (mC (.str "a")) mNil)) mNil))))))))) mNil))) (mCons (mCall 2 g_law_of [] (mCons (mVar 1) (mCons (mLst (mCons (mC .non) (mCons (mC (.str "")) (mCons (mC (.int 4)) (mCons (mC (.str "a b")) mNil))))) mNil))) mNil))) (LM.mgTL 2 (mgCons (mgName 7) (mgCons (mgName 8) mgNil))))
    (mSeq (mAsg (mTup (mCons (mCall 2 g_law_of [] (mCons (mVar 1) (mCons (mLst (mCons (mC .non) (mCons (mC (.int 0)) (mCons (mC (.int 4)) (mCons (mC (.bl true)) (mCons (mC (.str "1")) (mCons (mOp fSub (mC (.int 0)) (mC (.int 1))) (mCons (mOp fPow (mC (.int 10)) (mC (.int 19))) (mCons (mTup (mCons (mC (.int 1)) mNil)) mNil))))))))) mNil))) (mCons (mCall 2 g_law_of [] (mCons (mVar 1) (mCons (mLst (mCons (mC (.int 0)) (mCons (mC (.int 6)) (mCons (mC .non) (mCons (mC (.str "2")) (mCons (mC (.bl true)) mNil)))))) mNil))) mNil))) (LM.mgTL 2 (mgCons (mgName 9) (mgCons (mgName 10) mgNil))))
    (mSeq (mAsg (mLst (mCons (LM.mLam 0 Pt (LC 10) (cl_10 as)) (mCons (LM.mLam 0 Pt (LC 9) (cl_9 as)) (mCons (LM.mLam 0 Pt (LC 8) (cl_8 as)) (mCons (LM.mLam 0 Pt (LC 7) (cl_7 as)) (mCons (LM.mLam 0 Pt (LC 6) (cl_6 as)) (mCons (LM.mLam 0 Pt (LC 5) (cl_5 as)) (mCons (LM.mLam 0 Pt (LC 4) (cl_4 as)) (mCons (LM.mLam 0 Pt (LC 3) (cl_3 as)) (mCons (LM.mLam 0 Pt (LC 2) (cl_2 as)) (mCons (LM.mLam 0 Pt (LC 1) (cl_1 as)) (mCons (LM.mLam 0 Pt (LC 0) (cl_0 as)) mNil)))))))))))) (mgName 11))
    (mSeq (mIfS (mNot (mTest (mCall 2 (g_law_same 8) [] (mCons (LM.mCallB 1 g_law_whys (LM.csOf as [3, 4, 5, 6, 7, 8, 9, 10]) (mCons (mVar 11) mNil)) (mCons (mOp LM.fMul4 (mLst (mCons (mTup (mCons (mC (.str "InvalidName")) (mCons (mTup (mCons (mVar 7) mNil)) mNil))) mNil)) (mC (.int 11))) mNil))))) (mRet (mC (.bl false))) mNext)
    (mSeq (mAsg (mLst (mCons (LM.mLam 0 Pt (LC 16) (cl_16 as)) (mCons (LM.mLam 0 Pt (LC 15) (cl_15 as)) (mCons (LM.mLam 0 Pt (LC 14) (cl_14 as)) (mCons (LM.mLam 0 Pt (LC 13) (cl_13 as)) (mCons (LM.mLam 0 Pt (LC 12) (cl_12 as)) (mCons (LM.mLam 0 Pt (LC 11) (cl_11 as)) mNil))))))) (mgName 11))
    (mSeq (mAsg (mLst (mCons (mC (.int 4)) (mCons (mC (.int 2)) (mCons (mC (.int 0)) (mCons (mC (.int 6)) (mCons (mVar 9) (mCons (mVar 10) mNil))))))) (mgName 12))
    (mIfS (mNot (mTest (mCall 2 (g_law_same 8) [] (mCons (LM.mCallB 1 g_law_whys (LM.csOf as [3, 4, 5, 6, 7, 8, 9, 10]) (mCons (mVar 11) mNil)) (mCons (mLc (mIAny (mVar 12)) (mgName 13) mYes (mTup (mCons (mC (.str "InvalidNumber")) (mCons (mTup (mCons (mVar 13) mNil)) mNil))) [13]) mNil))))) (mRet (mC (.bl false))) mNext)))))))))
    (mRet (mC (.bl true)))))
noncomputable def g_law (Pt : Addr) : List Addr → GF := fun as => mBody 14 (m_law Pt as)
theorem cl_0_is {a0 a1 a2 a3 a4 a5 a6 a7 : Addr} : cl_0 [a0, a1, a2, a3, a4, a5, a6, a7] = ([("_law_odd", a4), ("_law_c", a2), ("_law_b", a1), ("_law_a", a0)] : List (PySem.Str × Addr)) := by rfl
theorem caps_0 {a0 a1 a2 a3 a4 a5 a6 a7 : Addr} {d0 d1 d2 d3 d4 d5 d6 d7 : D} (h : [a0, a1, a2, a3, a4, a5, a6, a7].Nodup) : LM.capsD (LC 0).caps (cl_0 [a0, a1, a2, a3, a4, a5, a6, a7]) [(a0, d0), (a1, d1), (a2, d2), (a3, d3), (a4, d4), (a5, d5), (a6, d6), (a7, d7)] = some [d0, d1, d2, d4] := by
  rw [cl_0_is]
  have e : (LC 0).caps = (["_law_a", "_law_b", "_law_c", "_law_odd"] : List PySem.Str) := rfl
  rw [e]
  have h1_0 : (a1 == a0) = false := LM.nd_ne h 1 0 (by decide) rfl rfl
  have h2_0 : (a2 == a0) = false := LM.nd_ne h 2 0 (by decide) rfl rfl
  have h4_0 : (a4 == a0) = false := LM.nd_ne h 4 0 (by decide) rfl rfl
  have h0_1 : (a0 == a1) = false := LM.nd_ne h 0 1 (by decide) rfl rfl
  have h2_1 : (a2 == a1) = false := LM.nd_ne h 2 1 (by decide) rfl rfl
  have h4_1 : (a4 == a1) = false := LM.nd_ne h 4 1 (by decide) rfl rfl
  have h0_2 : (a0 == a2) = false := LM.nd_ne h 0 2 (by decide) rfl rfl
  have h1_2 : (a1 == a2) = false := LM.nd_ne h 1 2 (by decide) rfl rfl
  have h4_2 : (a4 == a2) = false := LM.nd_ne h 4 2 (by decide) rfl rfl
  have h0_3 : (a0 == a3) = false := LM.nd_ne h 0 3 (by decide) rfl rfl
  have h1_3 : (a1 == a3) = false := LM.nd_ne h 1 3 (by decide) rfl rfl
  have h2_3 : (a2 == a3) = false := LM.nd_ne h 2 3 (by decide) rfl rfl
  have h4_3 : (a4 == a3) = false := LM.nd_ne h 4 3 (by decide) rfl rfl
  have h0_4 : (a0 == a4) = false := LM.nd_ne h 0 4 (by decide) rfl rfl
  have h1_4 : (a1 == a4) = false := LM.nd_ne h 1 4 (by decide) rfl rfl
  have h2_4 : (a2 == a4) = false := LM.nd_ne h 2 4 (by decide) rfl rfl
  have h0_5 : (a0 == a5) = false := LM.nd_ne h 0 5 (by decide) rfl rfl
  have h1_5 : (a1 == a5) = false := LM.nd_ne h 1 5 (by decide) rfl rfl
  have h2_5 : (a2 == a5) = false := LM.nd_ne h 2 5 (by decide) rfl rfl
  have h4_5 : (a4 == a5) = false := LM.nd_ne h 4 5 (by decide) rfl rfl
  have h0_6 : (a0 == a6) = false := LM.nd_ne h 0 6 (by decide) rfl rfl
  have h1_6 : (a1 == a6) = false := LM.nd_ne h 1 6 (by decide) rfl rfl
  have h2_6 : (a2 == a6) = false := LM.nd_ne h 2 6 (by decide) rfl rfl
  have h4_6 : (a4 == a6) = false := LM.nd_ne h 4 6 (by decide) rfl rfl
  have h0_7 : (a0 == a7) = false := LM.nd_ne h 0 7 (by decide) rfl rfl
  have h1_7 : (a1 == a7) = false := LM.nd_ne h 1 7 (by decide) rfl rfl
  have h2_7 : (a2 == a7) = false := LM.nd_ne h 2 7 (by decide) rfl rfl
  have h4_7 : (a4 == a7) = false := LM.nd_ne h 4 7 (by decide) rfl rfl
  have s0_1 : (("_law_a" : PySem.Str) == ("_law_b" : PySem.Str)) = false := by decide +kernel
  have s0_2 : (("_law_a" : PySem.Str) == ("_law_c" : PySem.Str)) = false := by decide +kernel
  have s0_3 : (("_law_a" : PySem.Str) == ("_law_odd" : PySem.Str)) = false := by decide +kernel
  have s1_0 : (("_law_b" : PySem.Str) == ("_law_a" : PySem.Str)) = false := by decide +kernel
  have s1_2 : (("_law_b" : PySem.Str) == ("_law_c" : PySem.Str)) = false := by decide +kernel
  have s1_3 : (("_law_b" : PySem.Str) == ("_law_odd" : PySem.Str)) = false := by decide +kernel
  have s2_0 : (("_law_c" : PySem.Str) == ("_law_a" : PySem.Str)) = false := by decide +kernel
  have s2_1 : (("_law_c" : PySem.Str) == ("_law_b" : PySem.Str)) = false := by decide +kernel
  have s2_3 : (("_law_c" : PySem.Str) == ("_law_odd" : PySem.Str)) = false := by decide +kernel
  have s3_0 : (("_law_odd" : PySem.Str) == ("_law_a" : PySem.Str)) = false := by decide +kernel
  have s3_1 : (("_law_odd" : PySem.Str) == ("_law_b" : PySem.Str)) = false := by decide +kernel
  have s3_2 : (("_law_odd" : PySem.Str) == ("_law_c" : PySem.Str)) = false := by decide +kernel
  simp [LM.capsD, LM.capsOk, LM.capsGo, List.lookup, *]
  all_goals (repeat (first | exact beq_eq_false_iff_ne.mp (by assumption) | (apply And.intro; focus exact beq_eq_false_iff_ne.mp (by assumption))))
theorem tab_0 : LM.tabF lamTab (LC 0) = some gl_0 := LM.tabF_hit (by rfl)
theorem cl_1_is {a0 a1 a2 a3 a4 a5 a6 a7 : Addr} : cl_1 [a0, a1, a2, a3, a4, a5, a6, a7] = ([("_law_odd", a4), ("_law_late", a5), ("_law_bad", a6), ("_law_b", a1), ("_law_a", a0)] : List (PySem.Str × Addr)) := by rfl
theorem caps_1 {a0 a1 a2 a3 a4 a5 a6 a7 : Addr} {d0 d1 d2 d3 d4 d5 d6 d7 : D} (h : [a0, a1, a2, a3, a4, a5, a6, a7].Nodup) : LM.capsD (LC 1).caps (cl_1 [a0, a1, a2, a3, a4, a5, a6, a7]) [(a0, d0), (a1, d1), (a2, d2), (a3, d3), (a4, d4), (a5, d5), (a6, d6), (a7, d7)] = some [d0, d1, d4, d5, d6] := by
  rw [cl_1_is]
  have e : (LC 1).caps = (["_law_a", "_law_b", "_law_odd", "_law_late", "_law_bad"] : List PySem.Str) := rfl
  rw [e]
  have h1_0 : (a1 == a0) = false := LM.nd_ne h 1 0 (by decide) rfl rfl
  have h4_0 : (a4 == a0) = false := LM.nd_ne h 4 0 (by decide) rfl rfl
  have h5_0 : (a5 == a0) = false := LM.nd_ne h 5 0 (by decide) rfl rfl
  have h6_0 : (a6 == a0) = false := LM.nd_ne h 6 0 (by decide) rfl rfl
  have h0_1 : (a0 == a1) = false := LM.nd_ne h 0 1 (by decide) rfl rfl
  have h4_1 : (a4 == a1) = false := LM.nd_ne h 4 1 (by decide) rfl rfl
  have h5_1 : (a5 == a1) = false := LM.nd_ne h 5 1 (by decide) rfl rfl
  have h6_1 : (a6 == a1) = false := LM.nd_ne h 6 1 (by decide) rfl rfl
  have h0_2 : (a0 == a2) = false := LM.nd_ne h 0 2 (by decide) rfl rfl
  have h1_2 : (a1 == a2) = false := LM.nd_ne h 1 2 (by decide) rfl rfl
  have h4_2 : (a4 == a2) = false := LM.nd_ne h 4 2 (by decide) rfl rfl
  have h5_2 : (a5 == a2) = false := LM.nd_ne h 5 2 (by decide) rfl rfl
  have h6_2 : (a6 == a2) = false := LM.nd_ne h 6 2 (by decide) rfl rfl
  have h0_3 : (a0 == a3) = false := LM.nd_ne h 0 3 (by decide) rfl rfl
  have h1_3 : (a1 == a3) = false := LM.nd_ne h 1 3 (by decide) rfl rfl
  have h4_3 : (a4 == a3) = false := LM.nd_ne h 4 3 (by decide) rfl rfl
  have h5_3 : (a5 == a3) = false := LM.nd_ne h 5 3 (by decide) rfl rfl
  have h6_3 : (a6 == a3) = false := LM.nd_ne h 6 3 (by decide) rfl rfl
  have h0_4 : (a0 == a4) = false := LM.nd_ne h 0 4 (by decide) rfl rfl
  have h1_4 : (a1 == a4) = false := LM.nd_ne h 1 4 (by decide) rfl rfl
  have h5_4 : (a5 == a4) = false := LM.nd_ne h 5 4 (by decide) rfl rfl
  have h6_4 : (a6 == a4) = false := LM.nd_ne h 6 4 (by decide) rfl rfl
  have h0_5 : (a0 == a5) = false := LM.nd_ne h 0 5 (by decide) rfl rfl
  have h1_5 : (a1 == a5) = false := LM.nd_ne h 1 5 (by decide) rfl rfl
  have h4_5 : (a4 == a5) = false := LM.nd_ne h 4 5 (by decide) rfl rfl
  have h6_5 : (a6 == a5) = false := LM.nd_ne h 6 5 (by decide) rfl rfl
  have h0_6 : (a0 == a6) = false := LM.nd_ne h 0 6 (by decide) rfl rfl
  have h1_6 : (a1 == a6) = false := LM.nd_ne h 1 6 (by decide) rfl rfl
  have h4_6 : (a4 == a6) = false := LM.nd_ne h 4 6 (by decide) rfl rfl
  have h5_6 : (a5 == a6) = false := LM.nd_ne h 5 6 (by decide) rfl rfl
  have h0_7 : (a0 == a7) = false := LM.nd_ne h 0 7 (by decide) rfl rfl
  have h1_7 : (a1 == a7) = false := LM.nd_ne h 1 7 (by decide) rfl rfl
  have h4_7 : (a4 == a7) = false := LM.nd_ne h 4 7 (by decide) rfl rfl
  have h5_7 : (a5 == a7) = false := LM.nd_ne h 5 7 (by decide) rfl rfl
  have h6_7 : (a6 == a7) = false := LM.nd_ne h 6 7 (by decide) rfl rfl
  have s0_1 : (("_law_a" : PySem.Str) == ("_law_b" : PySem.Str)) = false := by decide +kernel
  have s0_2 : (("_law_a" : PySem.Str) == ("_law_odd" : PySem.Str)) = false := by decide +kernel
  have s0_3 : (("_law_a" : PySem.Str) == ("_law_late" : PySem.Str)) = false := by decide +kernel
  have s0_4 : (("_law_a" : PySem.Str) == ("_law_bad" : PySem.Str)) = false := by decide +kernel
  have s1_0 : (("_law_b" : PySem.Str) == ("_law_a" : PySem.Str)) = false := by decide +kernel
  have s1_2 : (("_law_b" : PySem.Str) == ("_law_odd" : PySem.Str)) = false := by decide +kernel
  have s1_3 : (("_law_b" : PySem.Str) == ("_law_late" : PySem.Str)) = false := by decide +kernel
  have s1_4 : (("_law_b" : PySem.Str) == ("_law_bad" : PySem.Str)) = false := by decide +kernel
  have s2_0 : (("_law_odd" : PySem.Str) == ("_law_a" : PySem.Str)) = false := by decide +kernel
  have s2_1 : (("_law_odd" : PySem.Str) == ("_law_b" : PySem.Str)) = false := by decide +kernel
  have s2_3 : (("_law_odd" : PySem.Str) == ("_law_late" : PySem.Str)) = false := by decide +kernel
  have s2_4 : (("_law_odd" : PySem.Str) == ("_law_bad" : PySem.Str)) = false := by decide +kernel
  have s3_0 : (("_law_late" : PySem.Str) == ("_law_a" : PySem.Str)) = false := by decide +kernel
  have s3_1 : (("_law_late" : PySem.Str) == ("_law_b" : PySem.Str)) = false := by decide +kernel
  have s3_2 : (("_law_late" : PySem.Str) == ("_law_odd" : PySem.Str)) = false := by decide +kernel
  have s3_4 : (("_law_late" : PySem.Str) == ("_law_bad" : PySem.Str)) = false := by decide +kernel
  have s4_0 : (("_law_bad" : PySem.Str) == ("_law_a" : PySem.Str)) = false := by decide +kernel
  have s4_1 : (("_law_bad" : PySem.Str) == ("_law_b" : PySem.Str)) = false := by decide +kernel
  have s4_2 : (("_law_bad" : PySem.Str) == ("_law_odd" : PySem.Str)) = false := by decide +kernel
  have s4_3 : (("_law_bad" : PySem.Str) == ("_law_late" : PySem.Str)) = false := by decide +kernel
  simp [LM.capsD, LM.capsOk, LM.capsGo, List.lookup, *]
  all_goals (repeat (first | exact beq_eq_false_iff_ne.mp (by assumption) | (apply And.intro; focus exact beq_eq_false_iff_ne.mp (by assumption))))
theorem tab_1 : LM.tabF lamTab (LC 1) = some gl_1 := LM.tabF_hit (by rfl)
theorem cl_2_is {a0 a1 a2 a3 a4 a5 a6 a7 : Addr} : cl_2 [a0, a1, a2, a3, a4, a5, a6, a7] = ([("_law_odd", a4), ("_law_late", a5), ("_law_bad", a6)] : List (PySem.Str × Addr)) := by rfl
theorem caps_2 {a0 a1 a2 a3 a4 a5 a6 a7 : Addr} {d0 d1 d2 d3 d4 d5 d6 d7 : D} (h : [a0, a1, a2, a3, a4, a5, a6, a7].Nodup) : LM.capsD (LC 2).caps (cl_2 [a0, a1, a2, a3, a4, a5, a6, a7]) [(a0, d0), (a1, d1), (a2, d2), (a3, d3), (a4, d4), (a5, d5), (a6, d6), (a7, d7)] = some [d4, d5, d6] := by
  rw [cl_2_is]
  have e : (LC 2).caps = (["_law_odd", "_law_late", "_law_bad"] : List PySem.Str) := rfl
  rw [e]
  have h4_0 : (a4 == a0) = false := LM.nd_ne h 4 0 (by decide) rfl rfl
  have h5_0 : (a5 == a0) = false := LM.nd_ne h 5 0 (by decide) rfl rfl
  have h6_0 : (a6 == a0) = false := LM.nd_ne h 6 0 (by decide) rfl rfl
  have h4_1 : (a4 == a1) = false := LM.nd_ne h 4 1 (by decide) rfl rfl
  have h5_1 : (a5 == a1) = false := LM.nd_ne h 5 1 (by decide) rfl rfl
  have h6_1 : (a6 == a1) = false := LM.nd_ne h 6 1 (by decide) rfl rfl
  have h4_2 : (a4 == a2) = false := LM.nd_ne h 4 2 (by decide) rfl rfl
  have h5_2 : (a5 == a2) = false := LM.nd_ne h 5 2 (by decide) rfl rfl
  have h6_2 : (a6 == a2) = false := LM.nd_ne h 6 2 (by decide) rfl rfl
  have h4_3 : (a4 == a3) = false := LM.nd_ne h 4 3 (by decide) rfl rfl
  have h5_3 : (a5 == a3) = false := LM.nd_ne h 5 3 (by decide) rfl rfl
  have h6_3 : (a6 == a3) = false := LM.nd_ne h 6 3 (by decide) rfl rfl
  have h5_4 : (a5 == a4) = false := LM.nd_ne h 5 4 (by decide) rfl rfl
  have h6_4 : (a6 == a4) = false := LM.nd_ne h 6 4 (by decide) rfl rfl
  have h4_5 : (a4 == a5) = false := LM.nd_ne h 4 5 (by decide) rfl rfl
  have h6_5 : (a6 == a5) = false := LM.nd_ne h 6 5 (by decide) rfl rfl
  have h4_6 : (a4 == a6) = false := LM.nd_ne h 4 6 (by decide) rfl rfl
  have h5_6 : (a5 == a6) = false := LM.nd_ne h 5 6 (by decide) rfl rfl
  have h4_7 : (a4 == a7) = false := LM.nd_ne h 4 7 (by decide) rfl rfl
  have h5_7 : (a5 == a7) = false := LM.nd_ne h 5 7 (by decide) rfl rfl
  have h6_7 : (a6 == a7) = false := LM.nd_ne h 6 7 (by decide) rfl rfl
  have s0_1 : (("_law_odd" : PySem.Str) == ("_law_late" : PySem.Str)) = false := by decide +kernel
  have s0_2 : (("_law_odd" : PySem.Str) == ("_law_bad" : PySem.Str)) = false := by decide +kernel
  have s1_0 : (("_law_late" : PySem.Str) == ("_law_odd" : PySem.Str)) = false := by decide +kernel
  have s1_2 : (("_law_late" : PySem.Str) == ("_law_bad" : PySem.Str)) = false := by decide +kernel
  have s2_0 : (("_law_bad" : PySem.Str) == ("_law_odd" : PySem.Str)) = false := by decide +kernel
  have s2_1 : (("_law_bad" : PySem.Str) == ("_law_late" : PySem.Str)) = false := by decide +kernel
  simp [LM.capsD, LM.capsOk, LM.capsGo, List.lookup, *]
  all_goals (repeat (first | exact beq_eq_false_iff_ne.mp (by assumption) | (apply And.intro; focus exact beq_eq_false_iff_ne.mp (by assumption))))
theorem tab_2 : LM.tabF lamTab (LC 2) = some gl_2 := LM.tabF_hit (by rfl)
theorem cl_3_is {a0 a1 a2 a3 a4 a5 a6 a7 : Addr} : cl_3 [a0, a1, a2, a3, a4, a5, a6, a7] = ([("_law_odd", a4), ("_law_b", a1), ("_law_a", a0)] : List (PySem.Str × Addr)) := by rfl
theorem caps_3 {a0 a1 a2 a3 a4 a5 a6 a7 : Addr} {d0 d1 d2 d3 d4 d5 d6 d7 : D} (h : [a0, a1, a2, a3, a4, a5, a6, a7].Nodup) : LM.capsD (LC 3).caps (cl_3 [a0, a1, a2, a3, a4, a5, a6, a7]) [(a0, d0), (a1, d1), (a2, d2), (a3, d3), (a4, d4), (a5, d5), (a6, d6), (a7, d7)] = some [d0, d1, d4] := by
  rw [cl_3_is]
  have e : (LC 3).caps = (["_law_a", "_law_b", "_law_odd"] : List PySem.Str) := rfl
  rw [e]
  have h1_0 : (a1 == a0) = false := LM.nd_ne h 1 0 (by decide) rfl rfl
  have h4_0 : (a4 == a0) = false := LM.nd_ne h 4 0 (by decide) rfl rfl
  have h0_1 : (a0 == a1) = false := LM.nd_ne h 0 1 (by decide) rfl rfl
  have h4_1 : (a4 == a1) = false := LM.nd_ne h 4 1 (by decide) rfl rfl
  have h0_2 : (a0 == a2) = false := LM.nd_ne h 0 2 (by decide) rfl rfl
  have h1_2 : (a1 == a2) = false := LM.nd_ne h 1 2 (by decide) rfl rfl
  have h4_2 : (a4 == a2) = false := LM.nd_ne h 4 2 (by decide) rfl rfl
  have h0_3 : (a0 == a3) = false := LM.nd_ne h 0 3 (by decide) rfl rfl
  have h1_3 : (a1 == a3) = false := LM.nd_ne h 1 3 (by decide) rfl rfl
  have h4_3 : (a4 == a3) = false := LM.nd_ne h 4 3 (by decide) rfl rfl
  have h0_4 : (a0 == a4) = false := LM.nd_ne h 0 4 (by decide) rfl rfl
  have h1_4 : (a1 == a4) = false := LM.nd_ne h 1 4 (by decide) rfl rfl
  have h0_5 : (a0 == a5) = false := LM.nd_ne h 0 5 (by decide) rfl rfl
  have h1_5 : (a1 == a5) = false := LM.nd_ne h 1 5 (by decide) rfl rfl
  have h4_5 : (a4 == a5) = false := LM.nd_ne h 4 5 (by decide) rfl rfl
  have h0_6 : (a0 == a6) = false := LM.nd_ne h 0 6 (by decide) rfl rfl
  have h1_6 : (a1 == a6) = false := LM.nd_ne h 1 6 (by decide) rfl rfl
  have h4_6 : (a4 == a6) = false := LM.nd_ne h 4 6 (by decide) rfl rfl
  have h0_7 : (a0 == a7) = false := LM.nd_ne h 0 7 (by decide) rfl rfl
  have h1_7 : (a1 == a7) = false := LM.nd_ne h 1 7 (by decide) rfl rfl
  have h4_7 : (a4 == a7) = false := LM.nd_ne h 4 7 (by decide) rfl rfl
  have s0_1 : (("_law_a" : PySem.Str) == ("_law_b" : PySem.Str)) = false := by decide +kernel
  have s0_2 : (("_law_a" : PySem.Str) == ("_law_odd" : PySem.Str)) = false := by decide +kernel
  have s1_0 : (("_law_b" : PySem.Str) == ("_law_a" : PySem.Str)) = false := by decide +kernel
  have s1_2 : (("_law_b" : PySem.Str) == ("_law_odd" : PySem.Str)) = false := by decide +kernel
  have s2_0 : (("_law_odd" : PySem.Str) == ("_law_a" : PySem.Str)) = false := by decide +kernel
  have s2_1 : (("_law_odd" : PySem.Str) == ("_law_b" : PySem.Str)) = false := by decide +kernel
  simp [LM.capsD, LM.capsOk, LM.capsGo, List.lookup, *]
  all_goals (repeat (first | exact beq_eq_false_iff_ne.mp (by assumption) | (apply And.intro; focus exact beq_eq_false_iff_ne.mp (by assumption))))
theorem tab_3 : LM.tabF lamTab (LC 3) = some gl_3 := LM.tabF_hit (by rfl)
theorem cl_4_is {a0 a1 a2 a3 a4 a5 a6 a7 : Addr} : cl_4 [a0, a1, a2, a3, a4, a5, a6, a7] = ([("_law_odd", a4), ("_law_late", a5), ("_law_a", a0)] : List (PySem.Str × Addr)) := by rfl
theorem caps_4 {a0 a1 a2 a3 a4 a5 a6 a7 : Addr} {d0 d1 d2 d3 d4 d5 d6 d7 : D} (h : [a0, a1, a2, a3, a4, a5, a6, a7].Nodup) : LM.capsD (LC 4).caps (cl_4 [a0, a1, a2, a3, a4, a5, a6, a7]) [(a0, d0), (a1, d1), (a2, d2), (a3, d3), (a4, d4), (a5, d5), (a6, d6), (a7, d7)] = some [d0, d4, d5] := by
  rw [cl_4_is]
  have e : (LC 4).caps = (["_law_a", "_law_odd", "_law_late"] : List PySem.Str) := rfl
  rw [e]
  have h4_0 : (a4 == a0) = false := LM.nd_ne h 4 0 (by decide) rfl rfl
  have h5_0 : (a5 == a0) = false := LM.nd_ne h 5 0 (by decide) rfl rfl
  have h0_1 : (a0 == a1) = false := LM.nd_ne h 0 1 (by decide) rfl rfl
  have h4_1 : (a4 == a1) = false := LM.nd_ne h 4 1 (by decide) rfl rfl
  have h5_1 : (a5 == a1) = false := LM.nd_ne h 5 1 (by decide) rfl rfl
  have h0_2 : (a0 == a2) = false := LM.nd_ne h 0 2 (by decide) rfl rfl
  have h4_2 : (a4 == a2) = false := LM.nd_ne h 4 2 (by decide) rfl rfl
  have h5_2 : (a5 == a2) = false := LM.nd_ne h 5 2 (by decide) rfl rfl
  have h0_3 : (a0 == a3) = false := LM.nd_ne h 0 3 (by decide) rfl rfl
  have h4_3 : (a4 == a3) = false := LM.nd_ne h 4 3 (by decide) rfl rfl
  have h5_3 : (a5 == a3) = false := LM.nd_ne h 5 3 (by decide) rfl rfl
  have h0_4 : (a0 == a4) = false := LM.nd_ne h 0 4 (by decide) rfl rfl
  have h5_4 : (a5 == a4) = false := LM.nd_ne h 5 4 (by decide) rfl rfl
  have h0_5 : (a0 == a5) = false := LM.nd_ne h 0 5 (by decide) rfl rfl
  have h4_5 : (a4 == a5) = false := LM.nd_ne h 4 5 (by decide) rfl rfl
  have h0_6 : (a0 == a6) = false := LM.nd_ne h 0 6 (by decide) rfl rfl
  have h4_6 : (a4 == a6) = false := LM.nd_ne h 4 6 (by decide) rfl rfl
  have h5_6 : (a5 == a6) = false := LM.nd_ne h 5 6 (by decide) rfl rfl
  have h0_7 : (a0 == a7) = false := LM.nd_ne h 0 7 (by decide) rfl rfl
  have h4_7 : (a4 == a7) = false := LM.nd_ne h 4 7 (by decide) rfl rfl
  have h5_7 : (a5 == a7) = false := LM.nd_ne h 5 7 (by decide) rfl rfl
  have s0_1 : (("_law_a" : PySem.Str) == ("_law_odd" : PySem.Str)) = false := by decide +kernel
  have s0_2 : (("_law_a" : PySem.Str) == ("_law_late" : PySem.Str)) = false := by decide +kernel
  have s1_0 : (("_law_odd" : PySem.Str) == ("_law_a" : PySem.Str)) = false := by decide +kernel
  have s1_2 : (("_law_odd" : PySem.Str) == ("_law_late" : PySem.Str)) = false := by decide +kernel
  have s2_0 : (("_law_late" : PySem.Str) == ("_law_a" : PySem.Str)) = false := by decide +kernel
  have s2_1 : (("_law_late" : PySem.Str) == ("_law_odd" : PySem.Str)) = false := by decide +kernel
  simp [LM.capsD, LM.capsOk, LM.capsGo, List.lookup, *]
  all_goals (repeat (first | exact beq_eq_false_iff_ne.mp (by assumption) | (apply And.intro; focus exact beq_eq_false_iff_ne.mp (by assumption))))
theorem tab_4 : LM.tabF lamTab (LC 4) = some gl_4 := LM.tabF_hit (by rfl)
theorem cl_5_is {a0 a1 a2 a3 a4 a5 a6 a7 : Addr} : cl_5 [a0, a1, a2, a3, a4, a5, a6, a7] = ([("_law_odd", a4), ("_law_late", a5)] : List (PySem.Str × Addr)) := by rfl
theorem caps_5 {a0 a1 a2 a3 a4 a5 a6 a7 : Addr} {d0 d1 d2 d3 d4 d5 d6 d7 : D} (h : [a0, a1, a2, a3, a4, a5, a6, a7].Nodup) : LM.capsD (LC 5).caps (cl_5 [a0, a1, a2, a3, a4, a5, a6, a7]) [(a0, d0), (a1, d1), (a2, d2), (a3, d3), (a4, d4), (a5, d5), (a6, d6), (a7, d7)] = some [d4, d5] := by
  rw [cl_5_is]
  have e : (LC 5).caps = (["_law_odd", "_law_late"] : List PySem.Str) := rfl
  rw [e]
  have h4_0 : (a4 == a0) = false := LM.nd_ne h 4 0 (by decide) rfl rfl
  have h5_0 : (a5 == a0) = false := LM.nd_ne h 5 0 (by decide) rfl rfl
  have h4_1 : (a4 == a1) = false := LM.nd_ne h 4 1 (by decide) rfl rfl
  have h5_1 : (a5 == a1) = false := LM.nd_ne h 5 1 (by decide) rfl rfl
  have h4_2 : (a4 == a2) = false := LM.nd_ne h 4 2 (by decide) rfl rfl
  have h5_2 : (a5 == a2) = false := LM.nd_ne h 5 2 (by decide) rfl rfl
  have h4_3 : (a4 == a3) = false := LM.nd_ne h 4 3 (by decide) rfl rfl
  have h5_3 : (a5 == a3) = false := LM.nd_ne h 5 3 (by decide) rfl rfl
  have h5_4 : (a5 == a4) = false := LM.nd_ne h 5 4 (by decide) rfl rfl
  have h4_5 : (a4 == a5) = false := LM.nd_ne h 4 5 (by decide) rfl rfl
  have h4_6 : (a4 == a6) = false := LM.nd_ne h 4 6 (by decide) rfl rfl
  have h5_6 : (a5 == a6) = false := LM.nd_ne h 5 6 (by decide) rfl rfl
  have h4_7 : (a4 == a7) = false := LM.nd_ne h 4 7 (by decide) rfl rfl
  have h5_7 : (a5 == a7) = false := LM.nd_ne h 5 7 (by decide) rfl rfl
  have s0_1 : (("_law_odd" : PySem.Str) == ("_law_late" : PySem.Str)) = false := by decide +kernel
  have s1_0 : (("_law_late" : PySem.Str) == ("_law_odd" : PySem.Str)) = false := by decide +kernel
  simp [LM.capsD, LM.capsOk, LM.capsGo, List.lookup, *]
  all_goals (repeat (first | exact beq_eq_false_iff_ne.mp (by assumption) | (apply And.intro; focus exact beq_eq_false_iff_ne.mp (by assumption))))
theorem tab_5 : LM.tabF lamTab (LC 5) = some gl_5 := LM.tabF_hit (by rfl)
theorem cl_6_is {a0 a1 a2 a3 a4 a5 a6 a7 : Addr} : cl_6 [a0, a1, a2, a3, a4, a5, a6, a7] = ([("_law_odd", a4), ("_law_late", a5), ("_law_c", a2), ("_law_b", a1), ("_law_a", a0)] : List (PySem.Str × Addr)) := by rfl
theorem caps_6 {a0 a1 a2 a3 a4 a5 a6 a7 : Addr} {d0 d1 d2 d3 d4 d5 d6 d7 : D} (h : [a0, a1, a2, a3, a4, a5, a6, a7].Nodup) : LM.capsD (LC 6).caps (cl_6 [a0, a1, a2, a3, a4, a5, a6, a7]) [(a0, d0), (a1, d1), (a2, d2), (a3, d3), (a4, d4), (a5, d5), (a6, d6), (a7, d7)] = some [d0, d1, d2, d4, d5] := by
  rw [cl_6_is]
  have e : (LC 6).caps = (["_law_a", "_law_b", "_law_c", "_law_odd", "_law_late"] : List PySem.Str) := rfl
  rw [e]
  have h1_0 : (a1 == a0) = false := LM.nd_ne h 1 0 (by decide) rfl rfl
  have h2_0 : (a2 == a0) = false := LM.nd_ne h 2 0 (by decide) rfl rfl
  have h4_0 : (a4 == a0) = false := LM.nd_ne h 4 0 (by decide) rfl rfl
  have h5_0 : (a5 == a0) = false := LM.nd_ne h 5 0 (by decide) rfl rfl
  have h0_1 : (a0 == a1) = false := LM.nd_ne h 0 1 (by decide) rfl rfl
  have h2_1 : (a2 == a1) = false := LM.nd_ne h 2 1 (by decide) rfl rfl
  have h4_1 : (a4 == a1) = false := LM.nd_ne h 4 1 (by decide) rfl rfl
  have h5_1 : (a5 == a1) = false := LM.nd_ne h 5 1 (by decide) rfl rfl
  have h0_2 : (a0 == a2) = false := LM.nd_ne h 0 2 (by decide) rfl rfl
  have h1_2 : (a1 == a2) = false := LM.nd_ne h 1 2 (by decide) rfl rfl
  have h4_2 : (a4 == a2) = false := LM.nd_ne h 4 2 (by decide) rfl rfl
  have h5_2 : (a5 == a2) = false := LM.nd_ne h 5 2 (by decide) rfl rfl
  have h0_3 : (a0 == a3) = false := LM.nd_ne h 0 3 (by decide) rfl rfl
  have h1_3 : (a1 == a3) = false := LM.nd_ne h 1 3 (by decide) rfl rfl
  have h2_3 : (a2 == a3) = false := LM.nd_ne h 2 3 (by decide) rfl rfl
  have h4_3 : (a4 == a3) = false := LM.nd_ne h 4 3 (by decide) rfl rfl
  have h5_3 : (a5 == a3) = false := LM.nd_ne h 5 3 (by decide) rfl rfl
  have h0_4 : (a0 == a4) = false := LM.nd_ne h 0 4 (by decide) rfl rfl
  have h1_4 : (a1 == a4) = false := LM.nd_ne h 1 4 (by decide) rfl rfl
  have h2_4 : (a2 == a4) = false := LM.nd_ne h 2 4 (by decide) rfl rfl
  have h5_4 : (a5 == a4) = false := LM.nd_ne h 5 4 (by decide) rfl rfl
  have h0_5 : (a0 == a5) = false := LM.nd_ne h 0 5 (by decide) rfl rfl
  have h1_5 : (a1 == a5) = false := LM.nd_ne h 1 5 (by decide) rfl rfl
  have h2_5 : (a2 == a5) = false := LM.nd_ne h 2 5 (by decide) rfl rfl
  have h4_5 : (a4 == a5) = false := LM.nd_ne h 4 5 (by decide) rfl rfl
  have h0_6 : (a0 == a6) = false := LM.nd_ne h 0 6 (by decide) rfl rfl
  have h1_6 : (a1 == a6) = false := LM.nd_ne h 1 6 (by decide) rfl rfl
  have h2_6 : (a2 == a6) = false := LM.nd_ne h 2 6 (by decide) rfl rfl
  have h4_6 : (a4 == a6) = false := LM.nd_ne h 4 6 (by decide) rfl rfl
  have h5_6 : (a5 == a6) = false := LM.nd_ne h 5 6 (by decide) rfl rfl
  have h0_7 : (a0 == a7) = false := LM.nd_ne h 0 7 (by decide) rfl rfl
  have h1_7 : (a1 == a7) = false := LM.nd_ne h 1 7 (by decide) rfl rfl
  have h2_7 : (a2 == a7) = false := LM.nd_ne h 2 7 (by decide) rfl rfl
  have h4_7 : (a4 == a7) = false := LM.nd_ne h 4 7 (by decide) rfl rfl
  have h5_7 : (a5 == a7) = false := LM.nd_ne h 5 7 (by decide) rfl rfl
  have s0_1 : (("_law_a" : PySem.Str) == ("_law_b" : PySem.Str)) = false := by decide +kernel
  have s0_2 : (("_law_a" : PySem.Str) == ("_law_c" : PySem.Str)) = false := by decide +kernel
  have s0_3 : (("_law_a" : PySem.Str) == ("_law_odd" : PySem.Str)) = false := by decide +kernel
  have s0_4 : (("_law_a" : PySem.Str) == ("_law_late" : PySem.Str)) = false := by decide +kernel
  have s1_0 : (("_law_b" : PySem.Str) == ("_law_a" : PySem.Str)) = false := by decide +kernel
  have s1_2 : (("_law_b" : PySem.Str) == ("_law_c" : PySem.Str)) = false := by decide +kernel
  have s1_3 : (("_law_b" : PySem.Str) == ("_law_odd" : PySem.Str)) = false := by decide +kernel
  have s1_4 : (("_law_b" : PySem.Str) == ("_law_late" : PySem.Str)) = false := by decide +kernel
  have s2_0 : (("_law_c" : PySem.Str) == ("_law_a" : PySem.Str)) = false := by decide +kernel
  have s2_1 : (("_law_c" : PySem.Str) == ("_law_b" : PySem.Str)) = false := by decide +kernel
  have s2_3 : (("_law_c" : PySem.Str) == ("_law_odd" : PySem.Str)) = false := by decide +kernel
  have s2_4 : (("_law_c" : PySem.Str) == ("_law_late" : PySem.Str)) = false := by decide +kernel
  have s3_0 : (("_law_odd" : PySem.Str) == ("_law_a" : PySem.Str)) = false := by decide +kernel
  have s3_1 : (("_law_odd" : PySem.Str) == ("_law_b" : PySem.Str)) = false := by decide +kernel
  have s3_2 : (("_law_odd" : PySem.Str) == ("_law_c" : PySem.Str)) = false := by decide +kernel
  have s3_4 : (("_law_odd" : PySem.Str) == ("_law_late" : PySem.Str)) = false := by decide +kernel
  have s4_0 : (("_law_late" : PySem.Str) == ("_law_a" : PySem.Str)) = false := by decide +kernel
  have s4_1 : (("_law_late" : PySem.Str) == ("_law_b" : PySem.Str)) = false := by decide +kernel
  have s4_2 : (("_law_late" : PySem.Str) == ("_law_c" : PySem.Str)) = false := by decide +kernel
  have s4_3 : (("_law_late" : PySem.Str) == ("_law_odd" : PySem.Str)) = false := by decide +kernel
  simp [LM.capsD, LM.capsOk, LM.capsGo, List.lookup, *]
  all_goals (repeat (first | exact beq_eq_false_iff_ne.mp (by assumption) | (apply And.intro; focus exact beq_eq_false_iff_ne.mp (by assumption))))
theorem tab_6 : LM.tabF lamTab (LC 6) = some gl_6 := LM.tabF_hit (by rfl)
theorem cl_7_is {a0 a1 a2 a3 a4 a5 a6 a7 : Addr} : cl_7 [a0, a1, a2, a3, a4, a5, a6, a7] = ([("_law_odd", a4), ("_law_late", a5), ("_law_a", a0)] : List (PySem.Str × Addr)) := by rfl
theorem caps_7 {a0 a1 a2 a3 a4 a5 a6 a7 : Addr} {d0 d1 d2 d3 d4 d5 d6 d7 : D} (h : [a0, a1, a2, a3, a4, a5, a6, a7].Nodup) : LM.capsD (LC 7).caps (cl_7 [a0, a1, a2, a3, a4, a5, a6, a7]) [(a0, d0), (a1, d1), (a2, d2), (a3, d3), (a4, d4), (a5, d5), (a6, d6), (a7, d7)] = some [d0, d4, d5] := by
  rw [cl_7_is]
  have e : (LC 7).caps = (["_law_a", "_law_odd", "_law_late"] : List PySem.Str) := rfl
  rw [e]
  have h4_0 : (a4 == a0) = false := LM.nd_ne h 4 0 (by decide) rfl rfl
  have h5_0 : (a5 == a0) = false := LM.nd_ne h 5 0 (by decide) rfl rfl
  have h0_1 : (a0 == a1) = false := LM.nd_ne h 0 1 (by decide) rfl rfl
  have h4_1 : (a4 == a1) = false := LM.nd_ne h 4 1 (by decide) rfl rfl
  have h5_1 : (a5 == a1) = false := LM.nd_ne h 5 1 (by decide) rfl rfl
  have h0_2 : (a0 == a2) = false := LM.nd_ne h 0 2 (by decide) rfl rfl
  have h4_2 : (a4 == a2) = false := LM.nd_ne h 4 2 (by decide) rfl rfl
  have h5_2 : (a5 == a2) = false := LM.nd_ne h 5 2 (by decide) rfl rfl
  have h0_3 : (a0 == a3) = false := LM.nd_ne h 0 3 (by decide) rfl rfl
  have h4_3 : (a4 == a3) = false := LM.nd_ne h 4 3 (by decide) rfl rfl
  have h5_3 : (a5 == a3) = false := LM.nd_ne h 5 3 (by decide) rfl rfl
  have h0_4 : (a0 == a4) = false := LM.nd_ne h 0 4 (by decide) rfl rfl
  have h5_4 : (a5 == a4) = false := LM.nd_ne h 5 4 (by decide) rfl rfl
  have h0_5 : (a0 == a5) = false := LM.nd_ne h 0 5 (by decide) rfl rfl
  have h4_5 : (a4 == a5) = false := LM.nd_ne h 4 5 (by decide) rfl rfl
  have h0_6 : (a0 == a6) = false := LM.nd_ne h 0 6 (by decide) rfl rfl
  have h4_6 : (a4 == a6) = false := LM.nd_ne h 4 6 (by decide) rfl rfl
  have h5_6 : (a5 == a6) = false := LM.nd_ne h 5 6 (by decide) rfl rfl
  have h0_7 : (a0 == a7) = false := LM.nd_ne h 0 7 (by decide) rfl rfl
  have h4_7 : (a4 == a7) = false := LM.nd_ne h 4 7 (by decide) rfl rfl
  have h5_7 : (a5 == a7) = false := LM.nd_ne h 5 7 (by decide) rfl rfl
  have s0_1 : (("_law_a" : PySem.Str) == ("_law_odd" : PySem.Str)) = false := by decide +kernel
  have s0_2 : (("_law_a" : PySem.Str) == ("_law_late" : PySem.Str)) = false := by decide +kernel
  have s1_0 : (("_law_odd" : PySem.Str) == ("_law_a" : PySem.Str)) = false := by decide +kernel
  have s1_2 : (("_law_odd" : PySem.Str) == ("_law_late" : PySem.Str)) = false := by decide +kernel
  have s2_0 : (("_law_late" : PySem.Str) == ("_law_a" : PySem.Str)) = false := by decide +kernel
  have s2_1 : (("_law_late" : PySem.Str) == ("_law_odd" : PySem.Str)) = false := by decide +kernel
  simp [LM.capsD, LM.capsOk, LM.capsGo, List.lookup, *]
  all_goals (repeat (first | exact beq_eq_false_iff_ne.mp (by assumption) | (apply And.intro; focus exact beq_eq_false_iff_ne.mp (by assumption))))
theorem tab_7 : LM.tabF lamTab (LC 7) = some gl_7 := LM.tabF_hit (by rfl)
theorem cl_8_is {a0 a1 a2 a3 a4 a5 a6 a7 : Addr} : cl_8 [a0, a1, a2, a3, a4, a5, a6, a7] = ([("_law_odd", a4), ("_law_late", a5)] : List (PySem.Str × Addr)) := by rfl
theorem caps_8 {a0 a1 a2 a3 a4 a5 a6 a7 : Addr} {d0 d1 d2 d3 d4 d5 d6 d7 : D} (h : [a0, a1, a2, a3, a4, a5, a6, a7].Nodup) : LM.capsD (LC 8).caps (cl_8 [a0, a1, a2, a3, a4, a5, a6, a7]) [(a0, d0), (a1, d1), (a2, d2), (a3, d3), (a4, d4), (a5, d5), (a6, d6), (a7, d7)] = some [d4, d5] := by
  rw [cl_8_is]
  have e : (LC 8).caps = (["_law_odd", "_law_late"] : List PySem.Str) := rfl
  rw [e]
  have h4_0 : (a4 == a0) = false := LM.nd_ne h 4 0 (by decide) rfl rfl
  have h5_0 : (a5 == a0) = false := LM.nd_ne h 5 0 (by decide) rfl rfl
  have h4_1 : (a4 == a1) = false := LM.nd_ne h 4 1 (by decide) rfl rfl
  have h5_1 : (a5 == a1) = false := LM.nd_ne h 5 1 (by decide) rfl rfl
  have h4_2 : (a4 == a2) = false := LM.nd_ne h 4 2 (by decide) rfl rfl
  have h5_2 : (a5 == a2) = false := LM.nd_ne h 5 2 (by decide) rfl rfl
  have h4_3 : (a4 == a3) = false := LM.nd_ne h 4 3 (by decide) rfl rfl
  have h5_3 : (a5 == a3) = false := LM.nd_ne h 5 3 (by decide) rfl rfl
  have h5_4 : (a5 == a4) = false := LM.nd_ne h 5 4 (by decide) rfl rfl
  have h4_5 : (a4 == a5) = false := LM.nd_ne h 4 5 (by decide) rfl rfl
  have h4_6 : (a4 == a6) = false := LM.nd_ne h 4 6 (by decide) rfl rfl
  have h5_6 : (a5 == a6) = false := LM.nd_ne h 5 6 (by decide) rfl rfl
  have h4_7 : (a4 == a7) = false := LM.nd_ne h 4 7 (by decide) rfl rfl
  have h5_7 : (a5 == a7) = false := LM.nd_ne h 5 7 (by decide) rfl rfl
  have s0_1 : (("_law_odd" : PySem.Str) == ("_law_late" : PySem.Str)) = false := by decide +kernel
  have s1_0 : (("_law_late" : PySem.Str) == ("_law_odd" : PySem.Str)) = false := by decide +kernel
  simp [LM.capsD, LM.capsOk, LM.capsGo, List.lookup, *]
  all_goals (repeat (first | exact beq_eq_false_iff_ne.mp (by assumption) | (apply And.intro; focus exact beq_eq_false_iff_ne.mp (by assumption))))
theorem tab_8 : LM.tabF lamTab (LC 8) = some gl_8 := LM.tabF_hit (by rfl)
theorem cl_9_is {a0 a1 a2 a3 a4 a5 a6 a7 : Addr} : cl_9 [a0, a1, a2, a3, a4, a5, a6, a7] = ([("_law_odd", a4)] : List (PySem.Str × Addr)) := by rfl
theorem caps_9 {a0 a1 a2 a3 a4 a5 a6 a7 : Addr} {d0 d1 d2 d3 d4 d5 d6 d7 : D} (h : [a0, a1, a2, a3, a4, a5, a6, a7].Nodup) : LM.capsD (LC 9).caps (cl_9 [a0, a1, a2, a3, a4, a5, a6, a7]) [(a0, d0), (a1, d1), (a2, d2), (a3, d3), (a4, d4), (a5, d5), (a6, d6), (a7, d7)] = some [d4] := by
  rw [cl_9_is]
  have e : (LC 9).caps = (["_law_odd"] : List PySem.Str) := rfl
  rw [e]
  have h4_0 : (a4 == a0) = false := LM.nd_ne h 4 0 (by decide) rfl rfl
  have h4_1 : (a4 == a1) = false := LM.nd_ne h 4 1 (by decide) rfl rfl
  have h4_2 : (a4 == a2) = false := LM.nd_ne h 4 2 (by decide) rfl rfl
  have h4_3 : (a4 == a3) = false := LM.nd_ne h 4 3 (by decide) rfl rfl
  have h4_5 : (a4 == a5) = false := LM.nd_ne h 4 5 (by decide) rfl rfl
  have h4_6 : (a4 == a6) = false := LM.nd_ne h 4 6 (by decide) rfl rfl
  have h4_7 : (a4 == a7) = false := LM.nd_ne h 4 7 (by decide) rfl rfl
  simp [LM.capsD, LM.capsOk, LM.capsGo, List.lookup, *]
  all_goals (repeat (first | exact beq_eq_false_iff_ne.mp (by assumption) | (apply And.intro; focus exact beq_eq_false_iff_ne.mp (by assumption))))
theorem tab_9 : LM.tabF lamTab (LC 9) = some gl_9 := LM.tabF_hit (by rfl)
theorem cl_10_is {a0 a1 a2 a3 a4 a5 a6 a7 : Addr} : cl_10 [a0, a1, a2, a3, a4, a5, a6, a7] = ([("_law_odd", a4)] : List (PySem.Str × Addr)) := by rfl
theorem caps_10 {a0 a1 a2 a3 a4 a5 a6 a7 : Addr} {d0 d1 d2 d3 d4 d5 d6 d7 : D} (h : [a0, a1, a2, a3, a4, a5, a6, a7].Nodup) : LM.capsD (LC 10).caps (cl_10 [a0, a1, a2, a3, a4, a5, a6, a7]) [(a0, d0), (a1, d1), (a2, d2), (a3, d3), (a4, d4), (a5, d5), (a6, d6), (a7, d7)] = some [d4] := by
  rw [cl_10_is]
  have e : (LC 10).caps = (["_law_odd"] : List PySem.Str) := rfl
  rw [e]
  have h4_0 : (a4 == a0) = false := LM.nd_ne h 4 0 (by decide) rfl rfl
  have h4_1 : (a4 == a1) = false := LM.nd_ne h 4 1 (by decide) rfl rfl
  have h4_2 : (a4 == a2) = false := LM.nd_ne h 4 2 (by decide) rfl rfl
  have h4_3 : (a4 == a3) = false := LM.nd_ne h 4 3 (by decide) rfl rfl
  have h4_5 : (a4 == a5) = false := LM.nd_ne h 4 5 (by decide) rfl rfl
  have h4_6 : (a4 == a6) = false := LM.nd_ne h 4 6 (by decide) rfl rfl
  have h4_7 : (a4 == a7) = false := LM.nd_ne h 4 7 (by decide) rfl rfl
  simp [LM.capsD, LM.capsOk, LM.capsGo, List.lookup, *]
  all_goals (repeat (first | exact beq_eq_false_iff_ne.mp (by assumption) | (apply And.intro; focus exact beq_eq_false_iff_ne.mp (by assumption))))
theorem tab_10 : LM.tabF lamTab (LC 10) = some gl_10 := LM.tabF_hit (by rfl)
theorem cl_11_is {a0 a1 a2 a3 a4 a5 a6 a7 : Addr} : cl_11 [a0, a1, a2, a3, a4, a5, a6, a7] = ([("_law_many", a7), ("_law_c", a2), ("_law_b", a1), ("_law_a", a0)] : List (PySem.Str × Addr)) := by rfl
theorem caps_11 {a0 a1 a2 a3 a4 a5 a6 a7 : Addr} {d0 d1 d2 d3 d4 d5 d6 d7 : D} (h : [a0, a1, a2, a3, a4, a5, a6, a7].Nodup) : LM.capsD (LC 11).caps (cl_11 [a0, a1, a2, a3, a4, a5, a6, a7]) [(a0, d0), (a1, d1), (a2, d2), (a3, d3), (a4, d4), (a5, d5), (a6, d6), (a7, d7)] = some [d0, d1, d2, d7] := by
  rw [cl_11_is]
  have e : (LC 11).caps = (["_law_a", "_law_b", "_law_c", "_law_many"] : List PySem.Str) := rfl
  rw [e]
  have h1_0 : (a1 == a0) = false := LM.nd_ne h 1 0 (by decide) rfl rfl
  have h2_0 : (a2 == a0) = false := LM.nd_ne h 2 0 (by decide) rfl rfl
  have h7_0 : (a7 == a0) = false := LM.nd_ne h 7 0 (by decide) rfl rfl
  have h0_1 : (a0 == a1) = false := LM.nd_ne h 0 1 (by decide) rfl rfl
  have h2_1 : (a2 == a1) = false := LM.nd_ne h 2 1 (by decide) rfl rfl
  have h7_1 : (a7 == a1) = false := LM.nd_ne h 7 1 (by decide) rfl rfl
  have h0_2 : (a0 == a2) = false := LM.nd_ne h 0 2 (by decide) rfl rfl
  have h1_2 : (a1 == a2) = false := LM.nd_ne h 1 2 (by decide) rfl rfl
  have h7_2 : (a7 == a2) = false := LM.nd_ne h 7 2 (by decide) rfl rfl
  have h0_3 : (a0 == a3) = false := LM.nd_ne h 0 3 (by decide) rfl rfl
  have h1_3 : (a1 == a3) = false := LM.nd_ne h 1 3 (by decide) rfl rfl
  have h2_3 : (a2 == a3) = false := LM.nd_ne h 2 3 (by decide) rfl rfl
  have h7_3 : (a7 == a3) = false := LM.nd_ne h 7 3 (by decide) rfl rfl
  have h0_4 : (a0 == a4) = false := LM.nd_ne h 0 4 (by decide) rfl rfl
  have h1_4 : (a1 == a4) = false := LM.nd_ne h 1 4 (by decide) rfl rfl
  have h2_4 : (a2 == a4) = false := LM.nd_ne h 2 4 (by decide) rfl rfl
  have h7_4 : (a7 == a4) = false := LM.nd_ne h 7 4 (by decide) rfl rfl
  have h0_5 : (a0 == a5) = false := LM.nd_ne h 0 5 (by decide) rfl rfl
  have h1_5 : (a1 == a5) = false := LM.nd_ne h 1 5 (by decide) rfl rfl
  have h2_5 : (a2 == a5) = false := LM.nd_ne h 2 5 (by decide) rfl rfl
  have h7_5 : (a7 == a5) = false := LM.nd_ne h 7 5 (by decide) rfl rfl
  have h0_6 : (a0 == a6) = false := LM.nd_ne h 0 6 (by decide) rfl rfl
  have h1_6 : (a1 == a6) = false := LM.nd_ne h 1 6 (by decide) rfl rfl
  have h2_6 : (a2 == a6) = false := LM.nd_ne h 2 6 (by decide) rfl rfl
  have h7_6 : (a7 == a6) = false := LM.nd_ne h 7 6 (by decide) rfl rfl
  have h0_7 : (a0 == a7) = false := LM.nd_ne h 0 7 (by decide) rfl rfl
  have h1_7 : (a1 == a7) = false := LM.nd_ne h 1 7 (by decide) rfl rfl
  have h2_7 : (a2 == a7) = false := LM.nd_ne h 2 7 (by decide) rfl rfl
  have s0_1 : (("_law_a" : PySem.Str) == ("_law_b" : PySem.Str)) = false := by decide +kernel
  have s0_2 : (("_law_a" : PySem.Str) == ("_law_c" : PySem.Str)) = false := by decide +kernel
  have s0_3 : (("_law_a" : PySem.Str) == ("_law_many" : PySem.Str)) = false := by decide +kernel
  have s1_0 : (("_law_b" : PySem.Str) == ("_law_a" : PySem.Str)) = false := by decide +kernel
  have s1_2 : (("_law_b" : PySem.Str) == ("_law_c" : PySem.Str)) = false := by decide +kernel
  have s1_3 : (("_law_b" : PySem.Str) == ("_law_many" : PySem.Str)) = false := by decide +kernel
  have s2_0 : (("_law_c" : PySem.Str) == ("_law_a" : PySem.Str)) = false := by decide +kernel
  have s2_1 : (("_law_c" : PySem.Str) == ("_law_b" : PySem.Str)) = false := by decide +kernel
  have s2_3 : (("_law_c" : PySem.Str) == ("_law_many" : PySem.Str)) = false := by decide +kernel
  have s3_0 : (("_law_many" : PySem.Str) == ("_law_a" : PySem.Str)) = false := by decide +kernel
  have s3_1 : (("_law_many" : PySem.Str) == ("_law_b" : PySem.Str)) = false := by decide +kernel
  have s3_2 : (("_law_many" : PySem.Str) == ("_law_c" : PySem.Str)) = false := by decide +kernel
  simp [LM.capsD, LM.capsOk, LM.capsGo, List.lookup, *]
  all_goals (repeat (first | exact beq_eq_false_iff_ne.mp (by assumption) | (apply And.intro; focus exact beq_eq_false_iff_ne.mp (by assumption))))
theorem tab_11 : LM.tabF lamTab (LC 11) = some gl_11 := LM.tabF_hit (by rfl)
theorem cl_12_is {a0 a1 a2 a3 a4 a5 a6 a7 : Addr} : cl_12 [a0, a1, a2, a3, a4, a5, a6, a7] = ([("_law_c", a2), ("_law_bad", a6), ("_law_b", a1), ("_law_a", a0)] : List (PySem.Str × Addr)) := by rfl
theorem caps_12 {a0 a1 a2 a3 a4 a5 a6 a7 : Addr} {d0 d1 d2 d3 d4 d5 d6 d7 : D} (h : [a0, a1, a2, a3, a4, a5, a6, a7].Nodup) : LM.capsD (LC 12).caps (cl_12 [a0, a1, a2, a3, a4, a5, a6, a7]) [(a0, d0), (a1, d1), (a2, d2), (a3, d3), (a4, d4), (a5, d5), (a6, d6), (a7, d7)] = some [d0, d1, d2, d6] := by
  rw [cl_12_is]
  have e : (LC 12).caps = (["_law_a", "_law_b", "_law_c", "_law_bad"] : List PySem.Str) := rfl
  rw [e]
  have h1_0 : (a1 == a0) = false := LM.nd_ne h 1 0 (by decide) rfl rfl
  have h2_0 : (a2 == a0) = false := LM.nd_ne h 2 0 (by decide) rfl rfl
  have h6_0 : (a6 == a0) = false := LM.nd_ne h 6 0 (by decide) rfl rfl
  have h0_1 : (a0 == a1) = false := LM.nd_ne h 0 1 (by decide) rfl rfl
  have h2_1 : (a2 == a1) = false := LM.nd_ne h 2 1 (by decide) rfl rfl
  have h6_1 : (a6 == a1) = false := LM.nd_ne h 6 1 (by decide) rfl rfl
  have h0_2 : (a0 == a2) = false := LM.nd_ne h 0 2 (by decide) rfl rfl
  have h1_2 : (a1 == a2) = false := LM.nd_ne h 1 2 (by decide) rfl rfl
  have h6_2 : (a6 == a2) = false := LM.nd_ne h 6 2 (by decide) rfl rfl
  have h0_3 : (a0 == a3) = false := LM.nd_ne h 0 3 (by decide) rfl rfl
  have h1_3 : (a1 == a3) = false := LM.nd_ne h 1 3 (by decide) rfl rfl
  have h2_3 : (a2 == a3) = false := LM.nd_ne h 2 3 (by decide) rfl rfl
  have h6_3 : (a6 == a3) = false := LM.nd_ne h 6 3 (by decide) rfl rfl
  have h0_4 : (a0 == a4) = false := LM.nd_ne h 0 4 (by decide) rfl rfl
  have h1_4 : (a1 == a4) = false := LM.nd_ne h 1 4 (by decide) rfl rfl
  have h2_4 : (a2 == a4) = false := LM.nd_ne h 2 4 (by decide) rfl rfl
  have h6_4 : (a6 == a4) = false := LM.nd_ne h 6 4 (by decide) rfl rfl
  have h0_5 : (a0 == a5) = false := LM.nd_ne h 0 5 (by decide) rfl rfl
  have h1_5 : (a1 == a5) = false := LM.nd_ne h 1 5 (by decide) rfl rfl
  have h2_5 : (a2 == a5) = false := LM.nd_ne h 2 5 (by decide) rfl rfl
  have h6_5 : (a6 == a5) = false := LM.nd_ne h 6 5 (by decide) rfl rfl
  have h0_6 : (a0 == a6) = false := LM.nd_ne h 0 6 (by decide) rfl rfl
  have h1_6 : (a1 == a6) = false := LM.nd_ne h 1 6 (by decide) rfl rfl
  have h2_6 : (a2 == a6) = false := LM.nd_ne h 2 6 (by decide) rfl rfl
  have h0_7 : (a0 == a7) = false := LM.nd_ne h 0 7 (by decide) rfl rfl
  have h1_7 : (a1 == a7) = false := LM.nd_ne h 1 7 (by decide) rfl rfl
  have h2_7 : (a2 == a7) = false := LM.nd_ne h 2 7 (by decide) rfl rfl
  have h6_7 : (a6 == a7) = false := LM.nd_ne h 6 7 (by decide) rfl rfl
  have s0_1 : (("_law_a" : PySem.Str) == ("_law_b" : PySem.Str)) = false := by decide +kernel
  have s0_2 : (("_law_a" : PySem.Str) == ("_law_c" : PySem.Str)) = false := by decide +kernel
  have s0_3 : (("_law_a" : PySem.Str) == ("_law_bad" : PySem.Str)) = false := by decide +kernel
  have s1_0 : (("_law_b" : PySem.Str) == ("_law_a" : PySem.Str)) = false := by decide +kernel
  have s1_2 : (("_law_b" : PySem.Str) == ("_law_c" : PySem.Str)) = false := by decide +kernel
  have s1_3 : (("_law_b" : PySem.Str) == ("_law_bad" : PySem.Str)) = false := by decide +kernel
  have s2_0 : (("_law_c" : PySem.Str) == ("_law_a" : PySem.Str)) = false := by decide +kernel
  have s2_1 : (("_law_c" : PySem.Str) == ("_law_b" : PySem.Str)) = false := by decide +kernel
  have s2_3 : (("_law_c" : PySem.Str) == ("_law_bad" : PySem.Str)) = false := by decide +kernel
  have s3_0 : (("_law_bad" : PySem.Str) == ("_law_a" : PySem.Str)) = false := by decide +kernel
  have s3_1 : (("_law_bad" : PySem.Str) == ("_law_b" : PySem.Str)) = false := by decide +kernel
  have s3_2 : (("_law_bad" : PySem.Str) == ("_law_c" : PySem.Str)) = false := by decide +kernel
  simp [LM.capsD, LM.capsOk, LM.capsGo, List.lookup, *]
  all_goals (repeat (first | exact beq_eq_false_iff_ne.mp (by assumption) | (apply And.intro; focus exact beq_eq_false_iff_ne.mp (by assumption))))
theorem tab_12 : LM.tabF lamTab (LC 12) = some gl_12 := LM.tabF_hit (by rfl)
theorem cl_13_is {a0 a1 a2 a3 a4 a5 a6 a7 : Addr} : cl_13 [a0, a1, a2, a3, a4, a5, a6, a7] = ([("_law_c", a2), ("_law_bad", a6), ("_law_b", a1), ("_law_a", a0)] : List (PySem.Str × Addr)) := by rfl
theorem caps_13 {a0 a1 a2 a3 a4 a5 a6 a7 : Addr} {d0 d1 d2 d3 d4 d5 d6 d7 : D} (h : [a0, a1, a2, a3, a4, a5, a6, a7].Nodup) : LM.capsD (LC 13).caps (cl_13 [a0, a1, a2, a3, a4, a5, a6, a7]) [(a0, d0), (a1, d1), (a2, d2), (a3, d3), (a4, d4), (a5, d5), (a6, d6), (a7, d7)] = some [d0, d1, d2, d6] := by
  rw [cl_13_is]
  have e : (LC 13).caps = (["_law_a", "_law_b", "_law_c", "_law_bad"] : List PySem.Str) := rfl
  rw [e]
  have h1_0 : (a1 == a0) = false := LM.nd_ne h 1 0 (by decide) rfl rfl
  have h2_0 : (a2 == a0) = false := LM.nd_ne h 2 0 (by decide) rfl rfl
  have h6_0 : (a6 == a0) = false := LM.nd_ne h 6 0 (by decide) rfl rfl
  have h0_1 : (a0 == a1) = false := LM.nd_ne h 0 1 (by decide) rfl rfl
  have h2_1 : (a2 == a1) = false := LM.nd_ne h 2 1 (by decide) rfl rfl
  have h6_1 : (a6 == a1) = false := LM.nd_ne h 6 1 (by decide) rfl rfl
  have h0_2 : (a0 == a2) = false := LM.nd_ne h 0 2 (by decide) rfl rfl
  have h1_2 : (a1 == a2) = false := LM.nd_ne h 1 2 (by decide) rfl rfl
  have h6_2 : (a6 == a2) = false := LM.nd_ne h 6 2 (by decide) rfl rfl
  have h0_3 : (a0 == a3) = false := LM.nd_ne h 0 3 (by decide) rfl rfl
  have h1_3 : (a1 == a3) = false := LM.nd_ne h 1 3 (by decide) rfl rfl
  have h2_3 : (a2 == a3) = false := LM.nd_ne h 2 3 (by decide) rfl rfl
  have h6_3 : (a6 == a3) = false := LM.nd_ne h 6 3 (by decide) rfl rfl
  have h0_4 : (a0 == a4) = false := LM.nd_ne h 0 4 (by decide) rfl rfl
  have h1_4 : (a1 == a4) = false := LM.nd_ne h 1 4 (by decide) rfl rfl
  have h2_4 : (a2 == a4) = false := LM.nd_ne h 2 4 (by decide) rfl rfl
  have h6_4 : (a6 == a4) = false := LM.nd_ne h 6 4 (by decide) rfl rfl
  have h0_5 : (a0 == a5) = false := LM.nd_ne h 0 5 (by decide) rfl rfl
  have h1_5 : (a1 == a5) = false := LM.nd_ne h 1 5 (by decide) rfl rfl
  have h2_5 : (a2 == a5) = false := LM.nd_ne h 2 5 (by decide) rfl rfl
  have h6_5 : (a6 == a5) = false := LM.nd_ne h 6 5 (by decide) rfl rfl
  have h0_6 : (a0 == a6) = false := LM.nd_ne h 0 6 (by decide) rfl rfl
  have h1_6 : (a1 == a6) = false := LM.nd_ne h 1 6 (by decide) rfl rfl
  have h2_6 : (a2 == a6) = false := LM.nd_ne h 2 6 (by decide) rfl rfl
  have h0_7 : (a0 == a7) = false := LM.nd_ne h 0 7 (by decide) rfl rfl
  have h1_7 : (a1 == a7) = false := LM.nd_ne h 1 7 (by decide) rfl rfl
  have h2_7 : (a2 == a7) = false := LM.nd_ne h 2 7 (by decide) rfl rfl
  have h6_7 : (a6 == a7) = false := LM.nd_ne h 6 7 (by decide) rfl rfl
  have s0_1 : (("_law_a" : PySem.Str) == ("_law_b" : PySem.Str)) = false := by decide +kernel
  have s0_2 : (("_law_a" : PySem.Str) == ("_law_c" : PySem.Str)) = false := by decide +kernel
  have s0_3 : (("_law_a" : PySem.Str) == ("_law_bad" : PySem.Str)) = false := by decide +kernel
  have s1_0 : (("_law_b" : PySem.Str) == ("_law_a" : PySem.Str)) = false := by decide +kernel
  have s1_2 : (("_law_b" : PySem.Str) == ("_law_c" : PySem.Str)) = false := by decide +kernel
  have s1_3 : (("_law_b" : PySem.Str) == ("_law_bad" : PySem.Str)) = false := by decide +kernel
  have s2_0 : (("_law_c" : PySem.Str) == ("_law_a" : PySem.Str)) = false := by decide +kernel
  have s2_1 : (("_law_c" : PySem.Str) == ("_law_b" : PySem.Str)) = false := by decide +kernel
  have s2_3 : (("_law_c" : PySem.Str) == ("_law_bad" : PySem.Str)) = false := by decide +kernel
  have s3_0 : (("_law_bad" : PySem.Str) == ("_law_a" : PySem.Str)) = false := by decide +kernel
  have s3_1 : (("_law_bad" : PySem.Str) == ("_law_b" : PySem.Str)) = false := by decide +kernel
  have s3_2 : (("_law_bad" : PySem.Str) == ("_law_c" : PySem.Str)) = false := by decide +kernel
  simp [LM.capsD, LM.capsOk, LM.capsGo, List.lookup, *]
  all_goals (repeat (first | exact beq_eq_false_iff_ne.mp (by assumption) | (apply And.intro; focus exact beq_eq_false_iff_ne.mp (by assumption))))
theorem tab_13 : LM.tabF lamTab (LC 13) = some gl_13 := LM.tabF_hit (by rfl)
theorem cl_14_is {a0 a1 a2 a3 a4 a5 a6 a7 : Addr} : cl_14 [a0, a1, a2, a3, a4, a5, a6, a7] = ([("_law_bad", a6), ("_law_a", a0)] : List (PySem.Str × Addr)) := by rfl
theorem caps_14 {a0 a1 a2 a3 a4 a5 a6 a7 : Addr} {d0 d1 d2 d3 d4 d5 d6 d7 : D} (h : [a0, a1, a2, a3, a4, a5, a6, a7].Nodup) : LM.capsD (LC 14).caps (cl_14 [a0, a1, a2, a3, a4, a5, a6, a7]) [(a0, d0), (a1, d1), (a2, d2), (a3, d3), (a4, d4), (a5, d5), (a6, d6), (a7, d7)] = some [d0, d6] := by
  rw [cl_14_is]
  have e : (LC 14).caps = (["_law_a", "_law_bad"] : List PySem.Str) := rfl
  rw [e]
  have h6_0 : (a6 == a0) = false := LM.nd_ne h 6 0 (by decide) rfl rfl
  have h0_1 : (a0 == a1) = false := LM.nd_ne h 0 1 (by decide) rfl rfl
  have h6_1 : (a6 == a1) = false := LM.nd_ne h 6 1 (by decide) rfl rfl
  have h0_2 : (a0 == a2) = false := LM.nd_ne h 0 2 (by decide) rfl rfl
  have h6_2 : (a6 == a2) = false := LM.nd_ne h 6 2 (by decide) rfl rfl
  have h0_3 : (a0 == a3) = false := LM.nd_ne h 0 3 (by decide) rfl rfl
  have h6_3 : (a6 == a3) = false := LM.nd_ne h 6 3 (by decide) rfl rfl
  have h0_4 : (a0 == a4) = false := LM.nd_ne h 0 4 (by decide) rfl rfl
  have h6_4 : (a6 == a4) = false := LM.nd_ne h 6 4 (by decide) rfl rfl
  have h0_5 : (a0 == a5) = false := LM.nd_ne h 0 5 (by decide) rfl rfl
  have h6_5 : (a6 == a5) = false := LM.nd_ne h 6 5 (by decide) rfl rfl
  have h0_6 : (a0 == a6) = false := LM.nd_ne h 0 6 (by decide) rfl rfl
  have h0_7 : (a0 == a7) = false := LM.nd_ne h 0 7 (by decide) rfl rfl
  have h6_7 : (a6 == a7) = false := LM.nd_ne h 6 7 (by decide) rfl rfl
  have s0_1 : (("_law_a" : PySem.Str) == ("_law_bad" : PySem.Str)) = false := by decide +kernel
  have s1_0 : (("_law_bad" : PySem.Str) == ("_law_a" : PySem.Str)) = false := by decide +kernel
  simp [LM.capsD, LM.capsOk, LM.capsGo, List.lookup, *]
  all_goals (repeat (first | exact beq_eq_false_iff_ne.mp (by assumption) | (apply And.intro; focus exact beq_eq_false_iff_ne.mp (by assumption))))
theorem tab_14 : LM.tabF lamTab (LC 14) = some gl_14 := LM.tabF_hit (by rfl)
theorem cl_15_is {a0 a1 a2 a3 a4 a5 a6 a7 : Addr} : cl_15 [a0, a1, a2, a3, a4, a5, a6, a7] = ([("_law_c", a2), ("_law_bad", a6), ("_law_b", a1), ("_law_a", a0)] : List (PySem.Str × Addr)) := by rfl
theorem caps_15 {a0 a1 a2 a3 a4 a5 a6 a7 : Addr} {d0 d1 d2 d3 d4 d5 d6 d7 : D} (h : [a0, a1, a2, a3, a4, a5, a6, a7].Nodup) : LM.capsD (LC 15).caps (cl_15 [a0, a1, a2, a3, a4, a5, a6, a7]) [(a0, d0), (a1, d1), (a2, d2), (a3, d3), (a4, d4), (a5, d5), (a6, d6), (a7, d7)] = some [d0, d1, d2, d6] := by
  rw [cl_15_is]
  have e : (LC 15).caps = (["_law_a", "_law_b", "_law_c", "_law_bad"] : List PySem.Str) := rfl
  rw [e]
  have h1_0 : (a1 == a0) = false := LM.nd_ne h 1 0 (by decide) rfl rfl
  have h2_0 : (a2 == a0) = false := LM.nd_ne h 2 0 (by decide) rfl rfl
  have h6_0 : (a6 == a0) = false := LM.nd_ne h 6 0 (by decide) rfl rfl
  have h0_1 : (a0 == a1) = false := LM.nd_ne h 0 1 (by decide) rfl rfl
  have h2_1 : (a2 == a1) = false := LM.nd_ne h 2 1 (by decide) rfl rfl
  have h6_1 : (a6 == a1) = false := LM.nd_ne h 6 1 (by decide) rfl rfl
  have h0_2 : (a0 == a2) = false := LM.nd_ne h 0 2 (by decide) rfl rfl
  have h1_2 : (a1 == a2) = false := LM.nd_ne h 1 2 (by decide) rfl rfl
  have h6_2 : (a6 == a2) = false := LM.nd_ne h 6 2 (by decide) rfl rfl
  have h0_3 : (a0 == a3) = false := LM.nd_ne h 0 3 (by decide) rfl rfl
  have h1_3 : (a1 == a3) = false := LM.nd_ne h 1 3 (by decide) rfl rfl
  have h2_3 : (a2 == a3) = false := LM.nd_ne h 2 3 (by decide) rfl rfl
  have h6_3 : (a6 == a3) = false := LM.nd_ne h 6 3 (by decide) rfl rfl
  have h0_4 : (a0 == a4) = false := LM.nd_ne h 0 4 (by decide) rfl rfl
  have h1_4 : (a1 == a4) = false := LM.nd_ne h 1 4 (by decide) rfl rfl
  have h2_4 : (a2 == a4) = false := LM.nd_ne h 2 4 (by decide) rfl rfl
  have h6_4 : (a6 == a4) = false := LM.nd_ne h 6 4 (by decide) rfl rfl
  have h0_5 : (a0 == a5) = false := LM.nd_ne h 0 5 (by decide) rfl rfl
  have h1_5 : (a1 == a5) = false := LM.nd_ne h 1 5 (by decide) rfl rfl
  have h2_5 : (a2 == a5) = false := LM.nd_ne h 2 5 (by decide) rfl rfl
  have h6_5 : (a6 == a5) = false := LM.nd_ne h 6 5 (by decide) rfl rfl
  have h0_6 : (a0 == a6) = false := LM.nd_ne h 0 6 (by decide) rfl rfl
  have h1_6 : (a1 == a6) = false := LM.nd_ne h 1 6 (by decide) rfl rfl
  have h2_6 : (a2 == a6) = false := LM.nd_ne h 2 6 (by decide) rfl rfl
  have h0_7 : (a0 == a7) = false := LM.nd_ne h 0 7 (by decide) rfl rfl
  have h1_7 : (a1 == a7) = false := LM.nd_ne h 1 7 (by decide) rfl rfl
  have h2_7 : (a2 == a7) = false := LM.nd_ne h 2 7 (by decide) rfl rfl
  have h6_7 : (a6 == a7) = false := LM.nd_ne h 6 7 (by decide) rfl rfl
  have s0_1 : (("_law_a" : PySem.Str) == ("_law_b" : PySem.Str)) = false := by decide +kernel
  have s0_2 : (("_law_a" : PySem.Str) == ("_law_c" : PySem.Str)) = false := by decide +kernel
  have s0_3 : (("_law_a" : PySem.Str) == ("_law_bad" : PySem.Str)) = false := by decide +kernel
  have s1_0 : (("_law_b" : PySem.Str) == ("_law_a" : PySem.Str)) = false := by decide +kernel
  have s1_2 : (("_law_b" : PySem.Str) == ("_law_c" : PySem.Str)) = false := by decide +kernel
  have s1_3 : (("_law_b" : PySem.Str) == ("_law_bad" : PySem.Str)) = false := by decide +kernel
  have s2_0 : (("_law_c" : PySem.Str) == ("_law_a" : PySem.Str)) = false := by decide +kernel
  have s2_1 : (("_law_c" : PySem.Str) == ("_law_b" : PySem.Str)) = false := by decide +kernel
  have s2_3 : (("_law_c" : PySem.Str) == ("_law_bad" : PySem.Str)) = false := by decide +kernel
  have s3_0 : (("_law_bad" : PySem.Str) == ("_law_a" : PySem.Str)) = false := by decide +kernel
  have s3_1 : (("_law_bad" : PySem.Str) == ("_law_b" : PySem.Str)) = false := by decide +kernel
  have s3_2 : (("_law_bad" : PySem.Str) == ("_law_c" : PySem.Str)) = false := by decide +kernel
  simp [LM.capsD, LM.capsOk, LM.capsGo, List.lookup, *]
  all_goals (repeat (first | exact beq_eq_false_iff_ne.mp (by assumption) | (apply And.intro; focus exact beq_eq_false_iff_ne.mp (by assumption))))
theorem tab_15 : LM.tabF lamTab (LC 15) = some gl_15 := LM.tabF_hit (by rfl)
theorem cl_16_is {a0 a1 a2 a3 a4 a5 a6 a7 : Addr} : cl_16 [a0, a1, a2, a3, a4, a5, a6, a7] = ([("_law_x", a3), ("_law_c", a2), ("_law_b", a1), ("_law_a", a0)] : List (PySem.Str × Addr)) := by rfl
theorem caps_16 {a0 a1 a2 a3 a4 a5 a6 a7 : Addr} {d0 d1 d2 d3 d4 d5 d6 d7 : D} (h : [a0, a1, a2, a3, a4, a5, a6, a7].Nodup) : LM.capsD (LC 16).caps (cl_16 [a0, a1, a2, a3, a4, a5, a6, a7]) [(a0, d0), (a1, d1), (a2, d2), (a3, d3), (a4, d4), (a5, d5), (a6, d6), (a7, d7)] = some [d0, d1, d2, d3] := by
  rw [cl_16_is]
  have e : (LC 16).caps = (["_law_a", "_law_b", "_law_c", "_law_x"] : List PySem.Str) := rfl
  rw [e]
  have h1_0 : (a1 == a0) = false := LM.nd_ne h 1 0 (by decide) rfl rfl
  have h2_0 : (a2 == a0) = false := LM.nd_ne h 2 0 (by decide) rfl rfl
  have h3_0 : (a3 == a0) = false := LM.nd_ne h 3 0 (by decide) rfl rfl
  have h0_1 : (a0 == a1) = false := LM.nd_ne h 0 1 (by decide) rfl rfl
  have h2_1 : (a2 == a1) = false := LM.nd_ne h 2 1 (by decide) rfl rfl
  have h3_1 : (a3 == a1) = false := LM.nd_ne h 3 1 (by decide) rfl rfl
  have h0_2 : (a0 == a2) = false := LM.nd_ne h 0 2 (by decide) rfl rfl
  have h1_2 : (a1 == a2) = false := LM.nd_ne h 1 2 (by decide) rfl rfl
  have h3_2 : (a3 == a2) = false := LM.nd_ne h 3 2 (by decide) rfl rfl
  have h0_3 : (a0 == a3) = false := LM.nd_ne h 0 3 (by decide) rfl rfl
  have h1_3 : (a1 == a3) = false := LM.nd_ne h 1 3 (by decide) rfl rfl
  have h2_3 : (a2 == a3) = false := LM.nd_ne h 2 3 (by decide) rfl rfl
  have h0_4 : (a0 == a4) = false := LM.nd_ne h 0 4 (by decide) rfl rfl
  have h1_4 : (a1 == a4) = false := LM.nd_ne h 1 4 (by decide) rfl rfl
  have h2_4 : (a2 == a4) = false := LM.nd_ne h 2 4 (by decide) rfl rfl
  have h3_4 : (a3 == a4) = false := LM.nd_ne h 3 4 (by decide) rfl rfl
  have h0_5 : (a0 == a5) = false := LM.nd_ne h 0 5 (by decide) rfl rfl
  have h1_5 : (a1 == a5) = false := LM.nd_ne h 1 5 (by decide) rfl rfl
  have h2_5 : (a2 == a5) = false := LM.nd_ne h 2 5 (by decide) rfl rfl
  have h3_5 : (a3 == a5) = false := LM.nd_ne h 3 5 (by decide) rfl rfl
  have h0_6 : (a0 == a6) = false := LM.nd_ne h 0 6 (by decide) rfl rfl
  have h1_6 : (a1 == a6) = false := LM.nd_ne h 1 6 (by decide) rfl rfl
  have h2_6 : (a2 == a6) = false := LM.nd_ne h 2 6 (by decide) rfl rfl
  have h3_6 : (a3 == a6) = false := LM.nd_ne h 3 6 (by decide) rfl rfl
  have h0_7 : (a0 == a7) = false := LM.nd_ne h 0 7 (by decide) rfl rfl
  have h1_7 : (a1 == a7) = false := LM.nd_ne h 1 7 (by decide) rfl rfl
  have h2_7 : (a2 == a7) = false := LM.nd_ne h 2 7 (by decide) rfl rfl
  have h3_7 : (a3 == a7) = false := LM.nd_ne h 3 7 (by decide) rfl rfl
  have s0_1 : (("_law_a" : PySem.Str) == ("_law_b" : PySem.Str)) = false := by decide +kernel
  have s0_2 : (("_law_a" : PySem.Str) == ("_law_c" : PySem.Str)) = false := by decide +kernel
  have s0_3 : (("_law_a" : PySem.Str) == ("_law_x" : PySem.Str)) = false := by decide +kernel
  have s1_0 : (("_law_b" : PySem.Str) == ("_law_a" : PySem.Str)) = false := by decide +kernel
  have s1_2 : (("_law_b" : PySem.Str) == ("_law_c" : PySem.Str)) = false := by decide +kernel
  have s1_3 : (("_law_b" : PySem.Str) == ("_law_x" : PySem.Str)) = false := by decide +kernel
  have s2_0 : (("_law_c" : PySem.Str) == ("_law_a" : PySem.Str)) = false := by decide +kernel
  have s2_1 : (("_law_c" : PySem.Str) == ("_law_b" : PySem.Str)) = false := by decide +kernel
  have s2_3 : (("_law_c" : PySem.Str) == ("_law_x" : PySem.Str)) = false := by decide +kernel
  have s3_0 : (("_law_x" : PySem.Str) == ("_law_a" : PySem.Str)) = false := by decide +kernel
  have s3_1 : (("_law_x" : PySem.Str) == ("_law_b" : PySem.Str)) = false := by decide +kernel
  have s3_2 : (("_law_x" : PySem.Str) == ("_law_c" : PySem.Str)) = false := by decide +kernel
  simp [LM.capsD, LM.capsOk, LM.capsGo, List.lookup, *]
  all_goals (repeat (first | exact beq_eq_false_iff_ne.mp (by assumption) | (apply And.intro; focus exact beq_eq_false_iff_ne.mp (by assumption))))
theorem tab_16 : LM.tabF lamTab (LC 16) = some gl_16 := LM.tabF_hit (by rfl)
end G

end
section
set_option maxHeartbeats 0
namespace G
open PySem PySem.Spec PyProof.Rows L2 DL
def FILE : Str := "/claim/cut.py"
def loose : List PySem.Str := (["_wall", "__name__", "VoteError", "InvalidName", "InvalidNumber", "Missing", "NothingLeft", "LETTERS", "MOST_LETTERS", "MOST_INPUTS", "FEWEST_HEARD", "MOST_HEARD", "is_number", "is_name", "check_names", "Part", "Source", "Box", "Store", "Voter", "_law_bag", "_law_take", "_law_of", "_law_same", "_law_field", "_law_why", "_law_whys", "_law_names"] : List PySem.Str)
def fa : List He.Fa := ([.glo "law",
  .glo "_law_bag",
  .free "range",
  .glo "_law_names",
  .glo "_law_of",
  .glo "_law_whys",
  .glo "_law_same",
  .free "len",
  .free "int",
  .glo "_law_take",
  .free "bool",
  .free "isinstance",
  .free "str",
  .free "list",
  .free "tuple",
  .free "zip",
  .free "all",
  .glo "_law_why",
  .mkr "Box",
  .glo "Box"] : List He.Fa) ++ ([.glo "check_names",
  .int "MOST_INPUTS" 3,
  .glo "InvalidNumber",
  .cls "Box",
  .noat "Box" "function",
  .noat "Box" "heard",
  .cls "Voter",
  .noat "Voter" "name",
  .cls "Store",
  .noat "Store" "name",
  .noat "Box" "name",
  .cls "Source",
  .noat "Source" "name",
  .cls "Part",
  .noat "Part" "name",
  .noat "Voter" "hard",
  .noat "Store" "hard",
  .noat "Box" "hard",
  .noat "Source" "hard",
  .noat "Part" "hard"] : List He.Fa) ++ ([.glo "is_name",
  .glo "InvalidName",
  .int "MOST_LETTERS" 6,
  .str "LETTERS" "abcdefghijklmnopqrstuvwxyz",
  .mkr "Voter",
  .glo "Voter",
  .int "FEWEST_HEARD" 3,
  .int "MOST_HEARD" 5,
  .glo "is_number",
  .noat "Voter" "least",
  .noat "Voter" "heard",
  .mkr "Store",
  .glo "Store",
  .noat "Store" "content",
  .noat "Store" "heard",
  .mkr "Source",
  .glo "Source",
  .mkr "Part",
  .glo "Part",
  .glo "VoteError"] : List He.Fa) ++ ([.glo "Missing",
  .glo "NothingLeft",
  .glo "_law_field",
  .free "super"] : List He.Fa)
def fn : List He.DefD := ([⟨("_law_bag", none), "_law_bag", "_law_bag", defArgs (top 22), defBody (top 22), defScope (top 22), [], []⟩,
  ⟨("_law_take", none), "_law_take", "_law_take", defArgs (top 23), defBody (top 23), defScope (top 23), [], []⟩,
  ⟨("_law_of", none), "_law_of", "_law_of", defArgs (top 24), defBody (top 24), defScope (top 24), [], []⟩,
  ⟨("_law_names", none), "_law_names", "_law_names", defArgs (top 29), defBody (top 29), defScope (top 29), [], []⟩,
  ⟨("_law_same", none), "_law_same", "_law_same", defArgs (top 25), defBody (top 25), defScope (top 25), [], []⟩,
  ⟨("is_name", none), "is_name", "is_name", defArgs (top 14), defBody (top 14), defScope (top 14), [], []⟩,
  ⟨("check_names", none), "check_names", "check_names", defArgs (top 15), defBody (top 15), defScope (top 15), [], []⟩,
  ⟨("Part", some "__init__"), "__init__", "Part.__init__", defArgs (inClass (top 16) 0), defBody (inClass (top 16) 0), defScope (inClass (top 16) 0), [], [("hard", (He.Dv.bl false))]⟩,
  ⟨("is_number", none), "is_number", "is_number", defArgs (top 13), defBody (top 13), defScope (top 13), [], []⟩,
  ⟨("_law_field", none), "_law_field", "_law_field", defArgs (top 26), defBody (top 26), defScope (top 26), [], []⟩,
  ⟨("_law_why", none), "_law_why", "_law_why", defArgs (top 27), defBody (top 27), defScope (top 27), [], []⟩,
  ⟨("_law_whys", none), "_law_whys", "_law_whys", defArgs (top 28), defBody (top 28), defScope (top 28), [], []⟩,
  ⟨("law", none), "law", "law", defArgs (top 30), defBody (top 30), defScope (top 30), [], []⟩] : List He.DefD)
def sdl : List SU.SDef := ([{ ad := fun K => (He.ma K (He.ga K "InvalidNumber") "__init__"), name := "__init__", qual := "InvalidNumber.__init__", params := defArgs (inClass (top 4) 0), body := defBody (inClass (top 4) 0), scope := defScope (inClass (top 4) 0), cls := "InvalidNumber", file := FILE, dfl := [], kwd := [] },
  { ad := fun K => (He.ma K (He.ga K "InvalidName") "__init__"), name := "__init__", qual := "InvalidName.__init__", params := defArgs (inClass (top 3) 0), body := defBody (inClass (top 3) 0), scope := defScope (inClass (top 3) 0), cls := "InvalidName", file := FILE, dfl := [], kwd := [] },
  { ad := fun K => (He.ma K (He.ga K "Box") "__init__"), name := "__init__", qual := "Box.__init__", params := defArgs (inClass (top 18) 1), body := defBody (inClass (top 18) 1), scope := defScope (inClass (top 18) 1), cls := "Box", file := FILE, dfl := [], kwd := [("hard", (He.Dv.bl false))] },
  { ad := fun K => (He.ma K (He.ga K "Voter") "__init__"), name := "__init__", qual := "Voter.__init__", params := defArgs (inClass (top 20) 1), body := defBody (inClass (top 20) 1), scope := defScope (inClass (top 20) 1), cls := "Voter", file := FILE, dfl := [], kwd := [("hard", (He.Dv.bl false))] },
  { ad := fun K => (He.ma K (He.ga K "Store") "__init__"), name := "__init__", qual := "Store.__init__", params := defArgs (inClass (top 19) 0), body := defBody (inClass (top 19) 0), scope := defScope (inClass (top 19) 0), cls := "Store", file := FILE, dfl := [], kwd := [("hard", (He.Dv.bl false))] },
  { ad := fun K => (He.ma K (He.ga K "Source") "__init__"), name := "__init__", qual := "Source.__init__", params := defArgs (inClass (top 17) 0), body := defBody (inClass (top 17) 0), scope := defScope (inClass (top 17) 0), cls := "Source", file := FILE, dfl := [], kwd := [] }] : List SU.SDef)
def dsl : List SU.ADef := []
def bl : List (PySem.W.Frag → Bool) := ([LM.exB "InvalidNumber" (["value"] : List PySem.Str),
  LM.einB "InvalidNumber",
  SU.supB "Box" "Box" "__init__" (fun K => He.ma K (He.ga K "Part") "__init__"),
  LM.exB "InvalidName" (["value"] : List PySem.Str),
  LM.einB "InvalidName",
  SU.supB "Voter" "Voter" "__init__" (fun K => He.ma K (He.ga K "Part") "__init__"),
  SU.supB "Store" "Store" "__init__" (fun K => He.ma K (He.ga K "Part") "__init__"),
  SU.supB "Source" "Source" "__init__" (fun K => He.ma K (He.ga K "Part") "__init__"),
  LM.xfCsB (["InvalidName", "InvalidNumber", "NothingLeft"] : List PySem.Str) "code",
  LM.exmB "NothingLeft" (["VoteError", "Missing", "NothingLeft"] : List PySem.Str) true,
  LM.exmB "InvalidNumber" (["VoteError", "Missing", "NothingLeft"] : List PySem.Str) true,
  LM.exmB "InvalidName" (["VoteError", "Missing", "NothingLeft"] : List PySem.Str) true,
  LM.xfCsB (["InvalidName", "InvalidNumber", "NothingLeft"] : List PySem.Str) "value",
  LM.xfCsB (["InvalidName", "InvalidNumber", "NothingLeft"] : List PySem.Str) "at",
  LM.xfCsB (["InvalidName", "InvalidNumber", "NothingLeft"] : List PySem.Str) "name",
  LM.xfCsB (["InvalidName", "InvalidNumber", "NothingLeft"] : List PySem.Str) "most",
  LM.xfCsB (["InvalidName", "InvalidNumber", "NothingLeft"] : List PySem.Str) "subject",
  LM.xfCsB (["InvalidName", "InvalidNumber", "NothingLeft"] : List PySem.Str) "line",
  LM.xfCsB (["InvalidName", "InvalidNumber", "NothingLeft"] : List PySem.Str) "function",
  LM.xfCsB (["InvalidName", "InvalidNumber", "NothingLeft"] : List PySem.Str) "voter"] : List (PySem.W.Frag → Bool)) ++ ([LM.xfCsB (["InvalidName", "InvalidNumber", "NothingLeft"] : List PySem.Str) "loop",
  SU.anyB] : List (PySem.W.Frag → Bool))
def Lk : SU.Looks3 := ⟨fa, fn, sdl, dsl, fun K => bl.all fun b => b K⟩
abbrev R : PySem.W.OpenRow := PySem.W.OpenLaw.row PySem.Challenge.rw_outvoted_k04_parts_refused
abbrev hk : PySem.W.Hook := LM.hookT 8 Lk "law"
def ob (s : PySem.W.SharedT) : SU.AlS × Bool := LM.obsT 8 Lk "law" (HandSHeadRun.getT s)
theorem ob_eq (s : PySem.W.SharedT) : ob s = hk.obs s.abs := LM.obsT_eq (HandSHeadRun.getT_eq s)
theorem run (w : World) : HandSHeadRun.RunEq R (PySem.W.view R.prog [30]) hk ob 40000 loose w := by
  intro os
  kernel_rfl
end G
end
section
set_option maxHeartbeats 4000000
namespace DL
open PySem PySem.Spec PyProof.Rows L2
abbrev EX := Str → List Str → List D → Mem → Prop
abbrev noE : EX := fun _ _ _ _ => False
@[irreducible] def Ev {α : Type} (r : Res α) (Q : α → Mem → Prop) (E : EX) : Prop := match r with
  | .ok a M => Q a M
  | .exc c ns ds M => E c ns ds M
  | .bad => False
section
variable {α β : Type} {ρ : Rho} {M : Mem} {E : EX}
theorem ev_ok {a : α} {Q : α → Mem → Prop} (h : Q a M) : Ev (.ok a M) Q E := by with_unfolding_all exact (h)
theorem ev_bind {r : Res α} {f : α → Mem → Res β} {Q : β → Mem → Prop} (h : Ev r (fun a M => Ev (f a M) Q E) E) : Ev (r.bind f) Q E := by
  with_unfolding_all
    cases r <;> exact h
theorem Ev.mono {r : Res α} {Q Q' : α → Mem → Prop} (h : Ev r Q E) (i : ∀ a M, Q a M → Q' a M) : Ev r Q' E := by
  with_unfolding_all
    cases r with
    | ok a M => exact i a M h
    | exc c ns ds M => exact h
    | bad => exact h
theorem Ev.ex {r : Res α} {Q : α → Mem → Prop} (h : Ev r Q noE) : ∃ a M, r = .ok a M ∧ Q a M := by
  with_unfolding_all
    cases r with
    | ok a M => exact ⟨a, M, rfl, h⟩
    | exc c ns ds M => exact h.elim
    | bad => exact h.elim
theorem Ev.noE {r : Res α} {Q : α → Mem → Prop} (h : Ev r Q DL.noE) : Ev r Q E := by
  with_unfolding_all
    cases r with
    | ok a M => exact h
    | exc c ns ds M => exact h.elim
    | bad => exact h.elim
theorem ev_eq {r r' : Res α} {Q : α → Mem → Prop} (e : r = r') (h : Ev r' Q E) : Ev r Q E := e ▸ h
theorem ev_noX {r : Res α} {Q : α → Mem → Prop} (h : Ev r Q noE) : Ev r.noX Q E := by
  with_unfolding_all
    cases r with
    | ok a M => exact h
    | exc c ns ds M => exact h.elim
    | bad => exact h.elim
theorem ev_els_l {r u : Res α} {Q : α → Mem → Prop} (h : Ev r Q E) : Ev (r.els u) Q E := by
  with_unfolding_all
    cases r with
    | ok a M => exact h
    | exc c ns ds M => exact h
    | bad => exact h.elim
theorem ev_els_r {u : Res α} {r : Res α} {Q : α → Mem → Prop} (e : r = .bad) (h : Ev u Q E) : Ev (r.els u) Q E := by
  rw [e]
  exact h
/-- what the walk leaves alone -/
def Hold (P : Prop) : Prop := P
/-- two ways -/
def Br (b : Bool) (p q : Prop) : Prop := (b = true → p) ∧ (b = false → q)
theorem br_t {p q : Prop} (h : p) : Br true p q := ⟨fun _ => h, fun z => nomatch z⟩
theorem br_f {p q : Prop} (h : q) : Br false p q := ⟨fun z => (nomatch z), fun _ => h⟩
theorem br_dt {P : Prop} [Decidable P] {p q : Prop} (c : P) (h : p) : Br (decide P) p q := by rw [decide_eq_true c]; exact br_t h
theorem br_df {P : Prop} [Decidable P] {p q : Prop} (c : ¬ P) (h : q) : Br (decide P) p q := by rw [decide_eq_false c]; exact br_f h
theorem br_d {P : Prop} [Decidable P] {p q : Prop} (h : P → p) (h' : ¬ P → q) : Br (decide P) p q := ⟨fun z => h (of_decide_eq_true z), fun z => h' (of_decide_eq_false z)⟩
theorem br_n {b : Bool} {p q : Prop} (h : Br b q p) : Br (!b) p q := ⟨fun z => h.2 (by cases b <;> simp_all), fun z => h.1 (by cases b <;> simp_all)⟩
theorem br_and {a b : Bool} {p q : Prop} (h : Br a (Br b p q) q) : Br (a && b) p q := by
  cases a with
  | true => exact h.1 rfl
  | false => exact br_f (h.2 rfl)
theorem br_or {a b : Bool} {p q : Prop} (h : Br a p (Br b p q)) : Br (a || b) p q := by
  cases a with
  | true => exact br_t (h.1 rfl)
  | false => exact h.2 rfl
theorem br_eqT {b : Bool} {p q : Prop} (e : b = true) (h : p) : Br b p q := by rw [e]; exact br_t h
theorem br_eqF {b : Bool} {p q : Prop} (e : b = false) (h : q) : Br b p q := by rw [e]; exact br_f h
theorem br_cases {b : Bool} {p q : Prop} (h : b = true → p) (h' : b = false → q) : Br b p q := ⟨h, h'⟩
theorem ev_ite {b : Bool} {r u : Res α} {Q : α → Mem → Prop} (h : Br b (Ev r Q E) (Ev u Q E)) : Ev (if b = true then r else u) Q E := by
  cases b with
  | true => exact h.1 rfl
  | false => exact h.2 rfl
theorem ev_guard {P : Prop} [Decidable P] {r : Res α} {Q : α → Mem → Prop} (c : P) (h : Ev r Q E) : Ev (if P then r else .bad) Q E := by rw [if_pos c]; exact h
variable {Q : D → Mem → Prop} {QL : List D → Mem → Prop} {QB : Bool → Mem → Prop} {ma mb mc m n : SE} {sa : SA} {t u : ST}
theorem ev_var {i : Nat} {d : D} (e : ρ[i]? = some (.val d)) (h : Q d M) : Ev (mVar i ρ M) Q E := by
  with_unfolding_all
    unfold mVar
    rw [e]
    exact h
theorem ev_c {d : D} (h : Q d M) : Ev (mC d ρ M) Q E := by with_unfolding_all exact (h)
theorem ev_op {f : D → D → Mem → Res D} (h : Ev (ma ρ M) (fun x M1 => Ev (mb ρ M1) (fun y M2 => Ev (f x y M2) Q E) E) E) : Ev (mOp f ma mb ρ M) Q E := ev_bind (h.mono fun _ _ h => ev_bind h)
theorem ev_nil (h : QL [] M) : Ev (mNil ρ M) QL E := by with_unfolding_all exact (h)
theorem ev_cons (h : Ev (m ρ M) (fun d M1 => Ev (sa ρ M1) (fun ds M2 => QL (d :: ds) M2) E) E) : Ev (mCons m sa ρ M) QL E := by with_unfolding_all exact (ev_bind (h.mono fun _ _ h => ev_bind (h.mono fun _ _ h => h)))
theorem ev_star (h : Ev (m ρ M) (fun d M1 => ∃ xs, seqOf d = some xs ∧ Ev (sa ρ M1) (fun ds M2 => QL (xs ++ ds) M2) E) E) : Ev (mStar m sa ρ M) QL E := by with_unfolding_all exact (ev_bind (h.mono fun d M1 ⟨xs, e, h⟩ => by
  show Ev (match seqOf d with
    | some xs => (sa ρ M1).bind fun ds M2 => .ok (xs ++ ds) M2
    | none => .bad) QL E
  rw [e]
  exact ev_bind (h.mono fun _ _ h => h)))
theorem ev_tup (h : Ev (sa ρ M) (fun ds M1 => ds.length ≤ 16777216 ∧ Q (.tup ds) M1) E) : Ev (mTup sa ρ M) Q E := by with_unfolding_all exact (ev_bind (h.mono fun ds M1 h => ev_guard (show ds.length ≤ sizeLine from h.1) h.2))
theorem ev_lst (h : Ev (sa ρ M) (fun ds M1 => ds.length ≤ 16777216 ∧ Q (.lst ds) M1) E) : Ev (mLst sa ρ M) Q E := by with_unfolding_all exact (ev_bind (h.mono fun ds M1 h => ev_guard (show ds.length ≤ sizeLine from h.1) h.2))
theorem ev_own (h : Ev (m ρ M) (fun d M1 => ∃ o, moOf d = some o ∧ Q (.obj M1.length) (M1 ++ [o])) E) : Ev (mOwn m ρ M) Q E := by with_unfolding_all exact (ev_bind (h.mono fun d M1 ⟨o, e, h⟩ => by
  show Ev (match moOf d with
    | some o => .ok (.obj M1.length) (M1 ++ [o])
    | none => .bad) Q E
  rw [e]
  exact h))
theorem ev_test (h : Ev (m ρ M) (fun d M1 => ∃ b, d = .bl b ∧ QB b M1) E) : Ev (mTest m ρ M) QB E := by with_unfolding_all exact (ev_bind (h.mono fun d M1 ⟨b, e, h⟩ => by subst e; exact h))
theorem ev_and (h : Ev (t ρ M) (fun b M1 => Br b (Ev (u ρ M1) QB E) (QB false M1)) E) : Ev (mAnd t u ρ M) QB E := by with_unfolding_all exact (ev_bind (h.mono fun b M1 h => ev_ite h))
theorem ev_or (h : Ev (t ρ M) (fun b M1 => Br b (QB true M1) (Ev (u ρ M1) QB E)) E) : Ev (mOr t u ρ M) QB E := by with_unfolding_all exact (ev_bind (h.mono fun b M1 h => ev_ite h))
theorem ev_not (h : Ev (t ρ M) (fun b M1 => QB (!b) M1) E) : Ev (mNot t ρ M) QB E := by with_unfolding_all exact (ev_bind h)
theorem ev_b (h : Ev (t ρ M) (fun b M1 => Q (.bl b) M1) E) : Ev (mB t ρ M) Q E := by with_unfolding_all exact (ev_bind h)
theorem ev_yes (h : QB true M) : Ev (mYes ρ M) QB E := by with_unfolding_all exact (h)
theorem ev_ifE (h : Ev (t ρ M) (fun b M1 => Br b (Ev (ma ρ M1) Q E) (Ev (mb ρ M1) Q E)) E) : Ev (mIfE t ma mb ρ M) Q E := ev_bind (h.mono fun b M1 h => ev_ite h)
theorem ev_chain {f f' : D → D → Mem → Res D} (h : Ev (ma ρ M) (fun x M1 => Ev (mb ρ M1) (fun y M2 => Ev (f x y M2) (fun z M3 => ∃ b, z = .bl b ∧ Br b (Ev (mc ρ M3) (fun w M4 => Ev (f' y w M4) Q E) E) (Q (.bl false) M3)) E) E) E) : Ev (mChain f f' ma mb mc ρ M) Q E := by with_unfolding_all exact (ev_bind (h.mono fun x M1 h => ev_bind (h.mono fun y M2 h => ev_bind (h.mono fun z M3 ⟨b, e, h⟩ => by
    subst e
    cases b with
    | true => exact ev_bind (h.1 rfl)
    | false => exact h.2 rfl))))
theorem ev_else_l (h : Ev (m ρ M) Q E) : Ev (mElse m n ρ M) Q E := ev_els_l h
theorem ev_else_r (e : m ρ M = .bad) (h : Ev (n ρ M) Q E) : Ev (mElse m n ρ M) Q E := ev_els_r e h
def EvO (r : Res (Option Int)) (Q : Option Int → Mem → Prop) (E : EX) : Prop := Ev r Q E
theorem ev_noPart {QO : Option Int → Mem → Prop} (h : QO none M) : Ev (mNoPart ρ M) QO E := by with_unfolding_all exact (h)
theorem ev_part {QO : Option Int → Mem → Prop} (h : Ev (m ρ M) (fun d M1 => ∃ i, d = .int i ∧ QO (some i) M1) E) : Ev (mPart m ρ M) QO E := by with_unfolding_all exact (ev_bind (h.mono fun d M1 ⟨i, e, h⟩ => by subst e; exact h))
theorem ev_sl {lo hi : SO} (h : Ev (m ρ M) (fun x M1 => Ev (lo ρ M1) (fun l M2 => Ev (hi ρ M2) (fun u M3 => Ev (fSl x l u M3) Q E) E) E) E) : Ev (mSl m lo hi ρ M) Q E := ev_bind (h.mono fun _ _ h => ev_bind (h.mono fun _ _ h => ev_bind h))
theorem ev_m1 {f : Str → D → Mem → Res D} (h : Ev (m ρ M) (fun x M1 => ∃ a, x = .str a ∧ Ev (n ρ M1) (fun d M2 => Ev (f a d M2) Q E) E) E) : Ev (mM1 f m n ρ M) Q E := ev_bind (h.mono fun x M1 ⟨a, e, h⟩ => by subst e; exact ev_bind h)
theorem ev_cb {f : List D → Mem → Res D} (h : Ev (sa ρ M) (fun ds M1 => Ev (f ds M1) Q E) E) : Ev (mCB f sa ρ M) Q E := ev_bind h
theorem ev_f1 {f : D → Mem → Res D} {d : D} (h : Ev (f d M) Q E) : Ev (f1 f [d] M) Q E := h
theorem ev_call {k : Nat} {g : GF} {dd : List D} (h : Ev (sa ρ M) (fun ds M1 => (ds ++ dd).length = k ∧ Ev (g (ds ++ dd) M1) Q E) E) : Ev (mCall k g dd sa ρ M) Q E := ev_bind (h.mono fun ds M1 h => ev_guard h.1 h.2)
theorem ev_callK {k a b : Nat} {g : GF} {pm : List D → List D → List D} {sk : SA} (h : Ev (sa ρ M) (fun ds M1 => Ev (sk ρ M1) (fun es M2 => (ds.length = a ∧ es.length = b ∧ (pm ds es).length = k) ∧ Ev (g (pm ds es) M2) Q E) E) E) : Ev (mCallK k a b g pm sa sk ρ M) Q E :=
  ev_bind (h.mono fun ds M1 h => ev_bind (h.mono fun es M2 h => ev_guard h.1 h.2))
variable {mi : SI} {mg : SG} {vs : List Nat}
theorem ev_lc (h : Ev (mi ρ M) (fun ds M1 => ds.length ≤ 16777216 ∧ Ev (lcGo (wipeR ρ vs) mg t m ds M1) (fun ys M2 => Q (.lst ys) M2) E) E) : Ev (mLc mi mg t m vs ρ M) Q E := by with_unfolding_all exact (ev_bind (h.mono fun ds M1 h => ev_guard (show ds.length ≤ sizeLine from h.1) (ev_bind h.2)))
theorem ev_lcNil {QL : List D → Mem → Prop} (h : QL [] M) : Ev (lcGo ρ mg t m [] M) QL E := by with_unfolding_all exact (h)
theorem ev_lcCons {d : D} {r : List D} {ρ1 : Rho} (e : mg d ρ = some ρ1) (h : Ev (t ρ1 M) (fun b M1 => Br b (Ev (m ρ1 M1) (fun y M2 => Ev (lcGo ρ mg t m r M2) (fun ys M3 => QL (y :: ys) M3) E) noE) (Ev (lcGo ρ mg t m r M1) QL E)) noE) : Ev (lcGo ρ mg t m (d :: r) M) QL E := by
  with_unfolding_all
    show Ev (match mg d ρ with
      | none => .bad
      | some ρ1 => (t ρ1 M).noX.bind fun b M1 => if b = true then (m ρ1 M1).noX.bind fun y M2 => (lcGo ρ mg t m r M2).bind fun ys M3 => .ok (y :: ys) M3 else lcGo ρ mg t m r M1) QL E
    rw [e]
    refine ev_bind (ev_noX (h.mono fun b M1 h => ?_))
    refine ev_ite ?_
    exact ⟨fun z => ev_bind (ev_noX ((h.1 z).mono fun y M2 h => ev_bind (h.mono fun _ _ h => h))), fun z => h.2 z⟩
/-- one thing after the other: what holds (I), what each yields (P) -/
theorem ev_lcInv (I : Mem → Prop) (P : D → D → Prop) {ds : List D} (h0 : I M) (h : ∀ d, d ∈ ds → ∀ M, I M → ∃ ρ1, mg d ρ = some ρ1 ∧ Ev (m ρ1 M) (fun y M' => P d y ∧ I M') noE) (hq : ∀ (ys : List D) (M' : Mem), ys.length = ds.length → (∀ (i : Nat) (d y : D), ds[i]? = some d → ys[i]? = some y → P d y) → I M' → QL ys M') : Ev (lcGo ρ mg mYes m ds M) QL E := by
  induction ds generalizing M QL with
  | nil => exact ev_lcNil (hq [] M rfl (fun i d y e => by simp at e) h0)
  | cons d r ih =>
    obtain ⟨ρ1, e, h1⟩ := h d (List.mem_cons_self ..) M h0
    refine ev_lcCons e (ev_yes (br_t (h1.mono fun y M1 h1 => ?_)))
    refine ih h1.2 (fun d hd => h d (List.mem_cons_of_mem _ hd)) fun ys M' l p i' => hq (y :: ys) M' (by simp [l]) (fun i d' y' e1 e2 => ?_) i'
    cases i with
    | zero =>
      simp at e1 e2
      subst e1 e2
      exact h1.1
    | succ i => exact p i d' y' (by simpa using e1) (by simpa using e2)
/-- a filter: the memory stays -/
theorem ev_lcFil (p : D → Bool) (f : D → D) {ds : List D} (h : ∀ d, d ∈ ds → ∃ ρ1, mg d ρ = some ρ1 ∧ Ev (t ρ1 M) (fun b M' => b = p d ∧ M' = M) noE ∧ (p d = true → Ev (m ρ1 M) (fun y M' => y = f d ∧ M' = M) noE)) (hq : QL ((ds.filter p).map f) M) : Ev (lcGo ρ mg t m ds M) QL E := by
  induction ds generalizing QL with
  | nil => exact ev_lcNil hq
  | cons d r ih =>
    obtain ⟨ρ1, e, h1, h2⟩ := h d (List.mem_cons_self ..)
    refine ev_lcCons e (h1.mono fun b M1 h1 => ?_)
    obtain ⟨rfl, rfl⟩ := h1
    refine ⟨fun z => ?_, fun z => ?_⟩
    · refine (h2 z).mono fun y M2 h3 => ?_
      obtain ⟨rfl, rfl⟩ := h3
      refine ih (fun d hd => h d (List.mem_cons_of_mem _ hd)) ?_
      rw [List.filter_cons_of_pos z] at hq
      exact hq
    · refine ih (fun d hd => h d (List.mem_cons_of_mem _ hd)) ?_
      rw [List.filter_cons_of_neg (by rw [z]; decide)] at hq
      exact hq
/-- each by itself: the memory stays -/
theorem ev_lcMap (f : D → D) {ds : List D} (h : ∀ d, d ∈ ds → ∃ ρ1, mg d ρ = some ρ1 ∧ Ev (m ρ1 M) (fun y M' => y = f d ∧ M' = M) noE) (hq : QL (ds.map f) M) : Ev (lcGo ρ mg mYes m ds M) QL E := by
  refine ev_lcFil (fun _ => true) f (fun d hd => ?_) (by rw [List.filter_eq_self.mpr (fun _ _ => rfl)]; exact hq)
  obtain ⟨ρ1, e, h1⟩ := h d hd
  exact ⟨ρ1, e, ev_yes ⟨rfl, rfl⟩, fun _ => h1⟩
theorem ev_any (h : Ev (m ρ M) (fun d M1 => Ev (itemsOf d M1) QL E) E) : Ev (mIAny m ρ M) QL E := ev_bind h
theorem ev_items_lst {ds : List D} (h : QL ds M) : Ev (itemsOf (.lst ds) M) QL E := by with_unfolding_all exact (h)
theorem ev_items_tup {ds : List D} (h : QL ds M) : Ev (itemsOf (.tup ds) M) QL E := by with_unfolding_all exact (h)
theorem ev_items_str {z : Str} (h : QL (signsD z) M) : Ev (itemsOf (.str z) M) QL E := by with_unfolding_all exact (h)
theorem ev_rng1 (h : Ev (sa ρ M) (fun ds M1 => ∃ j : Int, ds = [.int j] ∧ (-(2 ^ 62) ≤ j ∧ j < 2 ^ 62) ∧ QL (intsD 0 j.toNat) M1) E) : Ev (mRng1 sa ρ M) QL E := by with_unfolding_all exact (ev_bind (h.mono fun ds M1 ⟨j, e, c, h⟩ => by subst e; exact ev_guard c h))
theorem ev_rng2 (h : Ev (sa ρ M) (fun ds M1 => ∃ i j : Int, ds = [.int i, .int j] ∧ (-(2 ^ 62) ≤ i ∧ i < 2 ^ 62 ∧ -(2 ^ 62) ≤ j ∧ j < 2 ^ 62) ∧ QL (intsD i (j - i).toNat) M1) E) : Ev (mRng2 sa ρ M) QL E := by with_unfolding_all exact (ev_bind (h.mono fun ds M1 ⟨i, j, e, c, h⟩ => by subst e; exact ev_guard c h))
theorem ev_zip (h : Ev (sa ρ M) (fun ds M1 => ∃ xs ys, (ds = [.lst xs, .lst ys] ∨ ds = [.tup xs, .tup ys]) ∧ QL ((xs.zip ys).map fun p => D.tup [p.1, p.2]) M1) E) : Ev (mZip sa ρ M) QL E := by with_unfolding_all exact (ev_bind (h.mono fun ds M1 ⟨xs, ys, e, h⟩ => by
  rcases e with e | e <;> (subst e; exact h)))
structure Ks where
  nx : Rho → Mem → Prop
  rt : D → Mem → Prop
  bk : Rho → Mem → Prop := fun _ _ => False
  ct : Rho → Mem → Prop := fun _ _ => False
  ex : Rho → EX := fun _ _ _ _ _ => False
@[irreducible] def Es (r : Res Fl) (k : Ks) : Prop := match r with
  | .ok (.nx ρ) M => k.nx ρ M
  | .ok (.rt d) M => k.rt d M
  | .ok (.bk ρ) M => k.bk ρ M
  | .ok (.ct ρ) M => k.ct ρ M
  | .ok (.ex ρ c ns ds) M => k.ex ρ c ns ds M
  | .exc _ _ _ _ => False
  | .bad => False
variable {k : Ks} {sm sn : SS}
theorem es_lift {r : Res α} {f : α → Mem → Res Fl} (h : Ev r (fun a M => Es (f a M) k) (k.ex ρ)) : Es (liftE r ρ f) k := by
  with_unfolding_all
    cases r <;> exact h
theorem Es.mono {r : Res Fl} {k k' : Ks} (h : Es r k) (h1 : ∀ ρ M, k.nx ρ M → k'.nx ρ M) (h2 : ∀ d M, k.rt d M → k'.rt d M) (h3 : ∀ ρ M, k.bk ρ M → k'.bk ρ M) (h4 : ∀ ρ M, k.ct ρ M → k'.ct ρ M) (h5 : ∀ ρ c ns ds M, k.ex ρ c ns ds M → k'.ex ρ c ns ds M) : Es r k' := by
  with_unfolding_all
    cases r with
    | ok fl M => cases fl with
      | nx ρ => exact h1 ρ M h
      | rt d => exact h2 d M h
      | bk ρ => exact h3 ρ M h
      | ct ρ => exact h4 ρ M h
      | ex ρ c ns ds => exact h5 ρ c ns ds M h
    | exc c ns ds M => exact h
    | bad => exact h
theorem es_next (h : k.nx ρ M) : Es (mNext ρ M) k := by with_unfolding_all exact (h)
theorem es_seq (h : Es (sm ρ M) { k with nx := fun ρ1 M1 => Es (sn ρ1 M1) k }) : Es (mSeq sm sn ρ M) k := by
  with_unfolding_all
    unfold mSeq
    cases e : sm ρ M with
    | ok fl M1 =>
      rw [e] at h
      cases fl <;> exact h
    | exc c ns ds M1 =>
      rw [e] at h
      exact h
    | bad =>
      rw [e] at h
      exact h
theorem es_if (h : Ev (t ρ M) (fun b M1 => Br b (Es (sm ρ M1) k) (Es (sn ρ M1) k)) (k.ex ρ)) : Es (mIfS t sm sn ρ M) k := es_lift (h.mono fun b M1 h => by
  cases b with
  | true => exact h.1 rfl
  | false => exact h.2 rfl)
theorem es_ret (h : Ev (m ρ M) k.rt (k.ex ρ)) : Es (mRet m ρ M) k := by with_unfolding_all exact (es_lift h)
theorem es_retN (h : k.rt .non M) : Es (mRetN ρ M) k := by with_unfolding_all exact (h)
theorem es_drop (h : Ev (m ρ M) (fun _ M1 => k.nx ρ M1) (k.ex ρ)) : Es (mDrop m ρ M) k := by with_unfolding_all exact (es_lift h)
theorem es_break (h : k.bk ρ M) : Es (mBreak ρ M) k := by with_unfolding_all exact (h)
theorem es_cont (h : k.ct ρ M) : Es (mCont ρ M) k := by with_unfolding_all exact (h)
theorem es_asg (h : Ev (m ρ M) (fun d M1 => ∃ ρ1, mg d ρ = some ρ1 ∧ k.nx ρ1 M1) (k.ex ρ)) : Es (mAsg m mg ρ M) k := by with_unfolding_all exact (es_lift (h.mono fun d M1 ⟨ρ1, e, h⟩ => by
  show Es (match mg d ρ with
    | some ρ1 => .ok (.nx ρ1) M1
    | none => .bad) k
  rw [e]
  exact h))
theorem es_never (h : False) : Es (mNever ρ M) k := by with_unfolding_all exact (h)
theorem es_fz {i j : Nat} {ds : List D} (e : ρ[i]? = some (.val (.obj j))) (e2 : M[j]? = some (.lst ds)) (h : Es (sm (ρ.set i (.val (.lst ds))) (M.set j .dead)) k) : Es (mFz i sm ρ M) k := by
  unfold mFz
  rw [e]
  show Es (fzGo i j sm ρ M (M[j]?)) k
  rw [e2]
  exact h
theorem es_setIx {me mo mi : SE} (h : Ev (me ρ M) (fun d M1 => Ev (mo ρ M1) (fun x M2 => Ev (mi ρ M2) (fun y M3 => ∃ j i ds n, x = .obj j ∧ y = .int i ∧ M3[j]? = some (.lst ds) ∧ ixN ds.length i = some n ∧ k.nx ρ (M3.set j (.lst (ds.set n d)))) (k.ex ρ)) (k.ex ρ)) (k.ex ρ)) : Es (mSetIx me mo mi ρ M) k := by with_unfolding_all exact (es_lift (h.mono fun d M1 h => es_lift (h.mono fun x M2 h => es_lift (h.mono fun y M3 ⟨j, i, ds, n, e1, e2, e3, e4, hk⟩ => by
    subst e1 e2
    show Es (match M3[j]? with
      | some (.lst ds) => match ixN ds.length i with
        | some n => .ok (.nx ρ) (M3.set j (.lst (ds.set n d)))
        | none => .bad
      | _ => .bad) k
    rw [e3]
    show Es (match ixN ds.length i with
        | some n => .ok (.nx ρ) (M3.set j (.lst (ds.set n d)))
        | none => .bad) k
    rw [e4]
    exact hk))))
theorem es_for (h : Ev (mi ρ M) (fun ds M1 => Es (forGo mg sm ds ρ M1) k) (k.ex ρ)) : Es (mFor mi mg sm ρ M) k := es_lift h
theorem es_forNil (h : k.nx ρ M) : Es (forGo mg sm [] ρ M) k := by with_unfolding_all exact (h)
theorem es_forCons {d : D} {r : List D} {ρ1 : Rho} (e : mg d ρ = some ρ1) (h : Es (sm ρ1 M) { k with nx := fun ρ2 M2 => Es (forGo mg sm r ρ2 M2) k, ct := fun ρ2 M2 => Es (forGo mg sm r ρ2 M2) k, bk := k.nx }) : Es (forGo mg sm (d :: r) ρ M) k := by
  with_unfolding_all
    show Es (match mg d ρ with
      | none => .bad
      | some ρ1 => (sm ρ1 M).bind fun fl M1 => match fl with
        | .nx ρ2 => forGo mg sm r ρ2 M1
        | .ct ρ2 => forGo mg sm r ρ2 M1
        | .bk ρ2 => .ok (.nx ρ2) M1
        | .rt d => .ok (.rt d) M1
        | .ex ρ2 c ns ds => .ok (.ex ρ2 c ns ds) M1) k
    rw [e]
    show Es ((sm ρ1 M).bind _) k
    cases e2 : sm ρ1 M with
    | ok fl M1 =>
      rw [e2] at h
      cases fl <;> exact h
    | exc c ns ds M1 =>
      rw [e2] at h
      exact h
    | bad =>
      rw [e2] at h
      exact h
/-- a loop by its invariant, by the turn -/
theorem es_forInv (I : Nat → Rho → Mem → Prop) {ds : List D} (h0 : I 0 ρ M) (h : ∀ i d ρ M, ds[i]? = some d → I i ρ M → ∃ ρ1, mg d ρ = some ρ1 ∧ Es (sm ρ1 M) { k with nx := I (i + 1), ct := I (i + 1), bk := k.nx }) (hq : ∀ ρ M, I ds.length ρ M → k.nx ρ M) : Es (forGo mg sm ds ρ M) k := by
  induction ds generalizing I ρ M with
  | nil => exact es_forNil (hq ρ M h0)
  | cons d r ih =>
    obtain ⟨ρ1, e, h1⟩ := h 0 d ρ M rfl h0
    refine es_forCons e (h1.mono (fun ρ2 M2 h2 => ?_) (fun _ _ z => z) (fun _ _ z => z) (fun ρ2 M2 h2 => ?_) (fun _ _ _ _ _ z => z))
    · exact ih (fun i => I (i + 1)) h2 (fun i d ρ M e => h (i + 1) d ρ M (by simpa using e)) hq
    · exact ih (fun i => I (i + 1)) h2 (fun i d ρ M e => h (i + 1) d ρ M (by simpa using e)) hq
/-- a def's body -/
theorem ev_body {N : Nat} {ds : List D} (h : Es (sm (rho0 N ds) M) { nx := fun _ M => Q .non M, rt := Q, ex := fun _ => E }) : Ev (mBody N sm ds M) Q E := by
  with_unfolding_all
    unfold mBody
    cases e : sm (rho0 N ds) M with
    | ok fl M1 =>
      rw [e] at h
      cases fl with
      | nx ρ => exact h
      | rt d => exact h
      | bk ρ => exact False.elim h
      | ct ρ => exact False.elim h
      | ex ρ c ns ds => exact h
    | exc c ns ds M1 =>
      rw [e] at h
      exact False.elim h
    | bad =>
      rw [e] at h
      exact False.elim h
theorem ev_bodyS {N : Nat} {c : Str} {ds : List D} (h : Ev (mBody N sm (ds ++ [.cls c]) M) Q E) : Ev (SU.mBodyS N c sm ds M) Q E := h
end
end DL

end
section
set_option maxHeartbeats 4000000
namespace DL
open PySem PySem.Spec PyProof.Rows L2
section
variable {α β : Type} {ρ : Rho} {M : Mem} {E : EX} {Q : D → Mem → Prop} {QL : List D → Mem → Prop} {m n mo me mi : SE} {sa sk : SA} {k : Ks}
theorem ev_fld {cs : List Str} {f : Str} (h : Ev (m ρ M) (fun d M1 => ∃ c ns vs x, insOf d M1 = some (c, ns, vs) ∧ c ∈ cs ∧ fldD f ns vs = some x ∧ Q x M1) E) : Ev (mFld cs f m ρ M) Q E := by with_unfolding_all exact (ev_bind (h.mono fun d M1 ⟨c, ns, vs, x, e1, e2, e3, h⟩ => by
  unfold fFld
  rw [e1]
  show Ev (if c ∈ cs then (match fldD f ns vs with
    | some d => .ok d M1
    | none => .bad) else .bad) Q E
  rw [if_pos e2, e3]
  exact h))
theorem ev_prop {c : Str} {g : GF} (h : Ev (m ρ M) (fun d M1 => ∃ ns vs, insOf d M1 = some (c, ns, vs) ∧ Ev (g [d] M1) Q noE) E) : Ev (mProp c 1 g m ρ M) Q E := ev_bind (h.mono fun d M1 ⟨ns, vs, e1, h⟩ => by
  show Ev (match insOf d M1 with
    | some (c', _, _) => if c' = c ∧ 1 = 1 then (g [d] M1).noX else .bad
    | none => .bad) Q E
  rw [e1]
  show Ev (if c = c ∧ 1 = 1 then (g [d] M1).noX else .bad) Q E
  rw [if_pos ⟨rfl, rfl⟩]
  exact ev_noX h)
theorem ev_meth {c f : Str} {l : Nat} {g : GF} {dd : List D} (h : Ev (mo ρ M) (fun d M1 => ∃ ns vs, insOf d M1 = some (c, ns, vs) ∧ f ∉ ns ∧ Ev (sa ρ M1) (fun ds M2 => (d :: (ds ++ dd)).length = l ∧ Ev (g (d :: (ds ++ dd)) M2) Q E) E) E) : Ev (mMeth c f l g dd mo sa ρ M) Q E := ev_bind (h.mono fun d M1 ⟨ns, vs, e1, e2, h⟩ => by
  show Ev (match insOf d M1 with
    | some (c', ns, _) => if c' = c ∧ f ∉ ns then (sa ρ M1).bind fun ds M2 => if (d :: (ds ++ dd)).length = l then g (d :: (ds ++ dd)) M2 else .bad else .bad
    | none => .bad) Q E
  rw [e1]
  show Ev (if c = c ∧ f ∉ ns then (sa ρ M1).bind fun ds M2 => if (d :: (ds ++ dd)).length = l then g (d :: (ds ++ dd)) M2 else .bad else .bad) Q E
  rw [if_pos ⟨rfl, e2⟩]
  exact ev_bind (h.mono fun ds M2 h => ev_guard h.1 h.2))
theorem meth_bad {c c' f : Str} {l : Nat} {g : GF} {dd : List D} {i : Nat} {d : D} {ns : List Str} {vs : List D} (e0 : ρ[i]? = some (.val d)) (e1 : insOf d M = some (c', ns, vs)) (h : c' ≠ c) : mMeth c f l g dd (mVar i) sa ρ M = .bad := by
  have : mVar i ρ M = .ok d M := by unfold mVar; rw [e0]
  unfold mMeth
  rw [this]
  show (match insOf d M with
    | some (c', ns, _) => if c' = c ∧ f ∉ ns then (sa ρ M).bind fun ds M2 => if (d :: (ds ++ dd)).length = l then g (d :: (ds ++ dd)) M2 else .bad else .bad
    | none => .bad) = .bad
  rw [e1]
  exact if_neg fun z => h z.1
theorem prop_bad {c c' : Str} {l : Nat} {g : GF} {i : Nat} {d : D} {ns : List Str} {vs : List D} (e0 : ρ[i]? = some (.val d)) (e1 : insOf d M = some (c', ns, vs)) (h : c' ≠ c) : mProp c l g (mVar i) ρ M = .bad := by
  have : mVar i ρ M = .ok d M := by unfold mVar; rw [e0]
  unfold mProp
  rw [this]
  show (match insOf d M with
    | some (c', _, _) => if c' = c ∧ l = 1 then (g [d] M).noX else .bad
    | none => .bad) = .bad
  rw [e1]
  exact if_neg fun z => h z.1
theorem ev_else_meth {c c' f : Str} {l : Nat} {g : GF} {dd : List D} {i : Nat} {d : D} {ns : List Str} {vs : List D} (e0 : ρ[i]? = some (.val d)) (e1 : insOf d M = some (c', ns, vs)) (h : c' ≠ c) (q : Ev (n ρ M) Q E) : Ev (mElse (mMeth c f l g dd (mVar i) sa) n ρ M) Q E := ev_else_r (meth_bad e0 e1 h) q
theorem ev_else_prop {c c' : Str} {l : Nat} {g : GF} {i : Nat} {d : D} {ns : List Str} {vs : List D} (e0 : ρ[i]? = some (.val d)) (e1 : insOf d M = some (c', ns, vs)) (h : c' ≠ c) (q : Ev (n ρ M) Q E) : Ev (mElse (mProp c l g (mVar i)) n ρ M) Q E := ev_else_r (prop_bad e0 e1 h) q
/-- what a new instance must come to -/
def MkQ (j : Nat) (Q : D → Mem → Prop) : D → Mem → Prop := fun d M2 => d = .non ∧ ∃ c ns vs, M2[j]? = some (.ins c ns vs) ∧ Q (.ins c ns vs) (M2.set j .dead)
theorem ev_mk {j : Nat} {r : Res D} (h : Ev r (MkQ j Q) E) : Ev (mkEnd j r) Q E := by with_unfolding_all exact (ev_bind (h.mono fun d M2 ⟨e, c, ns, vs, e2, h⟩ => by
  subst e
  show Ev (mkEnd2 j M2 (M2[j]?)) Q E
  rw [e2]
  exact h))
theorem ev_make {c : Str} {l : Nat} {g : GF} {dd : List D} (h : Ev (sa ρ M) (fun ds M1 => (ds ++ dd).length + 1 = l ∧ Ev (g (.obj M1.length :: (ds ++ dd)) (M1 ++ [.ins c [] []])) (MkQ M1.length Q) E) E) : Ev (mMake c l g dd sa ρ M) Q E := ev_bind (h.mono fun ds M1 h => ev_guard h.1 (ev_mk h.2))
theorem ev_makeK {c : Str} {l a b : Nat} {g : GF} {pm : List D → List D → List D} (h : Ev (sa ρ M) (fun ds M1 => Ev (sk ρ M1) (fun es M2 => (ds.length = a ∧ es.length = b ∧ (pm ds es).length + 1 = l) ∧ Ev (g (.obj M2.length :: pm ds es) (M2 ++ [.ins c [] []])) (MkQ M2.length Q) E) E) E) : Ev (mMakeK c l a b g pm sa sk ρ M) Q E :=
  ev_bind (h.mono fun ds M1 h => ev_bind (h.mono fun es M2 h => ev_guard h.1 (ev_mk h.2)))
theorem ev_makeKR {c : Str} {l np b : Nat} {g : GF} {pm : List D → D → List D → List D} (h : Ev (sa ρ M) (fun ds M1 => Ev (sk ρ M1) (fun es M2 => (es.length = b ∧ np ≤ ds.length + 1 ∧ ds.length ≤ 16777216 ∧ (pm (.obj M2.length :: ds.take (np - 1)) (.tup (ds.drop (np - 1))) es).length = l ∧ 0 < np) ∧
    Ev (g (pm (.obj M2.length :: ds.take (np - 1)) (.tup (ds.drop (np - 1))) es) (M2 ++ [.ins c [] []])) (MkQ M2.length Q) E) E) E) : Ev (SU.mMakeKR c l np b g pm sa sk ρ M) Q E :=
  ev_bind (h.mono fun ds M1 h => ev_bind (h.mono fun es M2 h => ev_guard (show es.length = b ∧ np ≤ ds.length + 1 ∧ ds.length ≤ sizeLine ∧ _ ∧ _ from h.1) (ev_mk h.2)))
theorem ev_sup {c : Str} {i0 l : Nat} {g : GF} {dd : List D} {d : D} {ns : List Str} {vs : List D} (e0 : ρ[i0]? = some (.val d)) (e1 : insOf d M = some (c, ns, vs)) (h : Ev (sa ρ M) (fun ds M1 => (d :: (ds ++ dd)).length = l ∧ Ev (g (d :: (ds ++ dd)) M1) Q E) E) : Ev (SU.mSup c i0 l g dd sa ρ M) Q E := by
  have e2 : mVar i0 ρ M = .ok d M := by unfold mVar; rw [e0]
  unfold SU.mSup
  rw [e2]
  show Ev (match insOf d M with
    | some (c', _, _) => if c' = c then (sa ρ M).bind fun ds M1 => if (d :: (ds ++ dd)).length = l then g (d :: (ds ++ dd)) M1 else .bad else .bad
    | none => .bad) Q E
  rw [e1]
  show Ev (if c = c then (sa ρ M).bind fun ds M1 => if (d :: (ds ++ dd)).length = l then g (d :: (ds ++ dd)) M1 else .bad else .bad) Q E
  rw [if_pos rfl]
  exact ev_bind (h.mono fun ds M1 h => ev_guard h.1 h.2)
theorem ev_supK {c : Str} {i0 l a b : Nat} {g : GF} {pm : List D → List D → List D} {d : D} {ns : List Str} {vs : List D} (e0 : ρ[i0]? = some (.val d)) (e1 : insOf d M = some (c, ns, vs)) (h : Ev (sa ρ M) (fun ds M1 => Ev (sk ρ M1) (fun es M2 => (ds.length = a ∧ es.length = b ∧ (d :: pm ds es).length = l) ∧ Ev (g (d :: pm ds es) M2) Q E) E) E) : Ev (SU.mSupK c i0 l a b g pm sa sk ρ M) Q E := by
  have e2 : mVar i0 ρ M = .ok d M := by unfold mVar; rw [e0]
  unfold SU.mSupK
  rw [e2]
  show Ev (match insOf d M with
    | some (c', _, _) => if c' = c then (sa ρ M).bind fun ds M1 => (sk ρ M1).bind fun es M2 => if ds.length = a ∧ es.length = b ∧ (d :: pm ds es).length = l then g (d :: pm ds es) M2 else .bad else .bad
    | none => .bad) Q E
  rw [e1]
  show Ev (if c = c then (sa ρ M).bind fun ds M1 => (sk ρ M1).bind fun es M2 => if ds.length = a ∧ es.length = b ∧ (d :: pm ds es).length = l then g (d :: pm ds es) M2 else .bad else .bad) Q E
  rw [if_pos rfl]
  exact ev_bind (h.mono fun ds M1 h => ev_bind (h.mono fun es M2 h => ev_guard h.1 h.2))
theorem es_fldSet {cs : List Str} {f : Str} (h : Ev (me ρ M) (fun d M1 => Ev (mo ρ M1) (fun x M2 => ∃ j c ns vs, x = .obj j ∧ M2[j]? = some (.ins c ns vs) ∧ (c ∈ cs ∧ vs.length < 1000) ∧ k.nx ρ (M2.set j (.ins c (putNs f ns) (putDs f d ns vs)))) (k.ex ρ)) (k.ex ρ)) : Es (mFldSet cs f me mo ρ M) k := by with_unfolding_all exact (es_lift (h.mono fun d M1 h => es_lift (h.mono fun x M2 ⟨j, c, ns, vs, e1, e2, e3, hk⟩ => by
    subst e1
    show Es (match M2[j]? with
      | some (.ins c ns vs) => if c ∈ cs ∧ vs.length < 1000 then .ok (.nx ρ) (M2.set j (.ins c (putNs f ns) (putDs f d ns vs))) else .bad
      | _ => .bad) k
    rw [e2]
    show Es (if c ∈ cs ∧ vs.length < 1000 then .ok (.nx ρ) (M2.set j (.ins c (putNs f ns) (putDs f d ns vs))) else .bad) k
    rw [if_pos e3]
    exact hk)))
theorem ev_fmtS {z : Str} (c : z.length ≤ 16777216) (h : Q (.str z) M) : Ev (fFmt (.str z) M) Q E := by with_unfolding_all exact (ev_guard (show z.length ≤ sizeLine from c) h)
theorem ev_fmtI {i : Int} (c : i.natAbs.log2 < 1920) (h : Q (.str (toString i)) M) : Ev (fFmt (.int i) M) Q E := by with_unfolding_all exact (ev_guard c h)
theorem ev_fmt (h : Ev (m ρ M) (fun d M1 => Ev (fFmt d M1) Q E) E) : Ev (mFmt m ρ M) Q E := ev_bind h
theorem ev_jsNil {acc : Str} (h : Q (.str acc) M) : Ev (mJs [] acc ρ M) Q E := by with_unfolding_all exact (h)
theorem ev_jsCons {ms : List SE} {acc : Str} (h : Ev (m ρ M) (fun d M1 => ∃ y, d = .str y ∧ (acc ++ y).length ≤ 16777216 ∧ Ev (mJs ms (acc ++ y) ρ M1) Q E) E) : Ev (mJs (m :: ms) acc ρ M) Q E := ev_bind (h.mono fun d M1 ⟨y, e, c, h⟩ => by
  subst e
  exact ev_guard (show (acc ++ y).length ≤ sizeLine from c) h)
theorem ev_joined {ms : List SE} (h : Ev (mJs ms Str.empty ρ M) Q E) : Ev (mJoined ms ρ M) Q E := h
theorem ev_cvI {c : Str} {i : Int} (h : Ev (m ρ M) (fun d M1 => d = .cls c ∧ Q (.int i) M1) E) : Ev (SU.mCvI c i m ρ M) Q E := by with_unfolding_all exact (ev_bind (h.mono fun d M1 ⟨e, h⟩ => by
  subst e
  exact ev_guard rfl h))
theorem ev_append (h : Ev (mo ρ M) (fun x M1 => ∃ j ds0, x = .obj j ∧ M1[j]? = some (.lst ds0) ∧ Ev (me ρ M1) (fun d M2 => ∃ ds, M2[j]? = some (.lst ds) ∧ ds.length < 16777216 ∧ Q .non (M2.set j (.lst (ds ++ [d])))) E) E) : Ev (mAppend mo me ρ M) Q E := by with_unfolding_all exact (ev_bind (h.mono fun x M1 ⟨j, ds0, e, e0, h⟩ => by
  subst e
  have : lstAt (.obj j) M1 = some ds0 := by
    show (match M1[j]? with
      | some (.lst ds) => some ds
      | _ => none) = some ds0
    rw [e0]
  show Ev (match lstAt (.obj j) M1 with
    | some _ => (me ρ M1).bind fun d M2 => fAppend (.obj j) d M2
    | none => .bad) Q E
  rw [this]
  refine ev_bind (h.mono fun d M2 ⟨ds, e2, c, h⟩ => ?_)
  show Ev (match M2[j]? with
    | some (.lst ds) => if ds.length < sizeLine then .ok .non (M2.set j (.lst (ds ++ [d]))) else .bad
    | _ => .bad) Q E
  rw [e2]
  exact ev_guard (show ds.length < sizeLine from c) h))
theorem ev_insert (h : Ev (mo ρ M) (fun x M1 => ∃ j ds0, x = .obj j ∧ M1[j]? = some (.lst ds0) ∧ Ev (mi ρ M1) (fun y M2 => ∃ i, y = .int i ∧ Ev (me ρ M2) (fun d M3 => ∃ ds, M3[j]? = some (.lst ds) ∧ (ds.length < 16777216 ∧ 0 ≤ i ∧ i < 2 ^ 63) ∧ Q .non (M3.set j (.lst (ds.take i.toNat ++ [d] ++ ds.drop i.toNat)))) E) E) E) : Ev (mInsert mo mi me ρ M) Q E := by with_unfolding_all exact (ev_bind (h.mono fun x M1 ⟨j, ds0, e, e0, h⟩ => by
  subst e
  have : lstAt (.obj j) M1 = some ds0 := by
    show (match M1[j]? with
      | some (.lst ds) => some ds
      | _ => none) = some ds0
    rw [e0]
  show Ev (match lstAt (.obj j) M1 with
    | some _ => (mi ρ M1).bind fun y M2 => (me ρ M2).bind fun d M3 => fIns (.obj j) y d M3
    | none => .bad) Q E
  rw [this]
  refine ev_bind (h.mono fun y M2 ⟨i, e1, h⟩ => ?_)
  subst e1
  refine ev_bind (h.mono fun d M3 ⟨ds, e2, c, h⟩ => ?_)
  show Ev (fIns3 j i d M3 (M3[j]?)) Q E
  rw [e2]
  exact ev_guard (show ds.length < sizeLine ∧ 0 ≤ i ∧ i < 2 ^ 63 from c) h))
theorem ev_lenM {j : Nat} {ds : List D} (e : M[j]? = some (.lst ds)) (h : Q (.int ds.length) M) : Ev (fLenA [.obj j] M) Q E := by
  with_unfolding_all
    refine ev_els_r (show f1 fLen [.obj j] M = .bad from rfl) ?_
    show Ev (match lstAt (.obj j) M with
      | some ds => .ok (.int ds.length) M
      | none => .bad) Q E
    have : lstAt (.obj j) M = some ds := by
      show (match M[j]? with
        | some (.lst ds) => some ds
        | _ => none) = some ds
      rw [e]
    rw [this]
    exact h
theorem ev_lenL {ds : List D} (h : Q (.int ds.length) M) : Ev (fLenA [.lst ds] M) Q E := by with_unfolding_all exact (h)
theorem ev_lenT {ds : List D} (h : Q (.int ds.length) M) : Ev (fLenA [.tup ds] M) Q E := by with_unfolding_all exact (h)
theorem ev_lenS {z : Str} (c : z.length ≤ 16777216) (h : Q (.int z.length) M) : Ev (fLenA [.str z] M) Q E := by with_unfolding_all exact (ev_els_l (ev_guard (show z.length ≤ sizeLine from c) h))
theorem ev_okE {r : Res α} {a : α} {M' : Mem} {Q : α → Mem → Prop} (e : r = .ok a M') (h : Q a M') : Ev r Q E := by with_unfolding_all rw [e]; exact h
theorem ev_ixL {ds : List D} {i : Int} {d : D} (e : atI ds i = some d) (h : Q d M) : Ev (fIx (.lst ds) (.int i) M) Q E := ev_okE (fIx_lst e) h
theorem ev_ixT {ds : List D} {i : Int} {d : D} (e : atI ds i = some d) (h : Q d M) : Ev (fIx (.tup ds) (.int i) M) Q E := ev_okE (fIx_tup e) h
theorem ev_ixO {j : Nat} {ds : List D} {i : Int} {d : D} (e0 : M[j]? = some (.lst ds)) (e : atI ds i = some d) (h : Q d M) : Ev (fIx (.obj j) (.int i) M) Q E := ev_okE (fIx_obj e0 e) h
theorem ev_ixS {z : Str} {i : Int} {c : Nat} (hz : z.length ≤ 16777216) (e : atI z.cps.toList i = some c) (h : Q (.str ⟨#[c]⟩) M) : Ev (fIx (.str z) (.int i) M) Q E := ev_okE (fIx_str hz e) h
theorem ev_addI {i j : Int} (h : Q (.int (i + j)) M) : Ev (fAdd (.int i) (.int j) M) Q E := by with_unfolding_all exact (h)
theorem ev_addS {i j : Str} (c : i.length + j.length ≤ 16777216) (h : Q (.str (i ++ j)) M) : Ev (fAdd (.str i) (.str j) M) Q E := ev_okE (fAdd_str c) h
theorem ev_addL {i j : List D} (c : i.length + j.length ≤ 16777216) (h : Q (.lst (i ++ j)) M) : Ev (fAdd (.lst i) (.lst j) M) Q E := ev_okE (fAdd_lst c) h
theorem ev_subI {i j : Int} (h : Q (.int (i - j)) M) : Ev (fSub (.int i) (.int j) M) Q E := by with_unfolding_all exact (h)
theorem ev_mulI {i j : Int} (c : (-(2 ^ 64) < i ∧ i < 2 ^ 64) ∨ (-(2 ^ 64) < j ∧ j < 2 ^ 64)) (h : Q (.int (i * j)) M) : Ev (fMul3 (.int i) (.int j) M) Q E := ev_els_l (ev_okE (fMul_int c) h)
theorem ev_mulL {i : List D} {n : Int} (c : 0 ≤ n ∧ n < 2 ^ 63 ∧ i.length * n.toNat ≤ 16777216) (h : Q (.lst (List.replicate n.toNat i).flatten) M) : Ev (fMul3 (.lst i) (.int n) M) Q E := ev_els_l (ev_okE (fMul_lst c) h)
theorem ev_mulS {z : Str} {n : Int} (c : z.length ≤ 1000 ∧ n ≤ 1000 ∧ -1000 ≤ n) (h : Q (.str (Txt.mul z n)) M) : Ev (fMul3 (.str z) (.int n) M) Q E := by with_unfolding_all exact (ev_els_r rfl (ev_guard c h))
theorem ev_mod {i j : Int} (c : 0 < j) (h : Q (.int (i % j)) M) : Ev (fMod (.int i) (.int j) M) Q E := ev_okE (fMod_int c) h
theorem ev_fdiv {i j : Int} (c : 0 < j) (c2 : j < 2 ^ 62) (h : Q (.int (i / j)) M) : Ev (fFdiv (.int i) (.int j) M) Q E := ev_okE (fFdiv_int c c2) h
theorem ev_lt {i j : Int} (h : Q (.bl (decide (i < j))) M) : Ev (fLt (.int i) (.int j) M) Q E := by with_unfolding_all exact (h)
theorem ev_le {i j : Int} (h : Q (.bl (decide (i ≤ j))) M) : Ev (fLe (.int i) (.int j) M) Q E := by with_unfolding_all exact (h)
theorem ev_gt {i j : Int} (h : Q (.bl (decide (j < i))) M) : Ev (fGt (.int i) (.int j) M) Q E := by with_unfolding_all exact (h)
theorem ev_ge {i j : Int} (h : Q (.bl (decide (j ≤ i))) M) : Ev (fGe (.int i) (.int j) M) Q E := by with_unfolding_all exact (h)
theorem ev_eqI {i j : Int} (h : Q (.bl (decide (i = j))) M) : Ev (fEqA (.int i) (.int j) M) Q E := ev_okE fEqA_int h
theorem ev_eqS {i j : Str} (h : Q (.bl (decide (i = j))) M) : Ev (fEqA (.str i) (.str j) M) Q E := ev_okE fEqA_str h
theorem ev_eqB {i j : Bool} (h : Q (.bl (decide (i = j))) M) : Ev (fEqA (.bl i) (.bl j) M) Q E := ev_okE fEqA_bl h
theorem ev_neI {i j : Int} (h : Q (.bl (!decide (i = j))) M) : Ev (fNeA (.int i) (.int j) M) Q E := ev_okE fNeA_int h
theorem ev_neS {i j : Str} (h : Q (.bl (!decide (i = j))) M) : Ev (fNeA (.str i) (.str j) M) Q E := ev_okE fNeA_str h
theorem ev_isi {ds : List D} {a : D} {M' : Mem} (e : fIsi ds M = .ok a M') (h : Q a M') : Ev (fIsi ds M) Q E := ev_okE e h
theorem ev_isN {b : Bool} {x y a : D} {M' : Mem} (e : fIsN b x y M = .ok a M') (h : Q a M') : Ev (fIsN b x y M) Q E := ev_okE e h
theorem ev_int1I {i : Int} (h : Q (.int i) M) : Ev (fInt1 (.int i) M) Q E := by with_unfolding_all exact (h)
theorem ev_int1B {b : Bool} (h : Q (.int (if b then 1 else 0)) M) : Ev (fInt1 (.bl b) M) Q E := by with_unfolding_all exact (h)
theorem ev_str1I {i : Int} (c : i.natAbs.log2 < 1920) (h : Q (.str (toString i)) M) : Ev (fStr1 (.int i) M) Q E := by with_unfolding_all exact (ev_guard c h)
theorem ev_str1S {z : Str} (h : Q (.str z) M) : Ev (fStr1 (.str z) M) Q E := by with_unfolding_all exact (h)
theorem ev_tuple1L {ds : List D} (h : Q (.tup ds) M) : Ev (fTuple1 (.lst ds) M) Q E := by with_unfolding_all exact (h)
theorem ev_tuple1T {ds : List D} (h : Q (.tup ds) M) : Ev (fTuple1 (.tup ds) M) Q E := by with_unfolding_all exact (h)
theorem ev_max2 {i j : Int} (h : Q (.int (if j > i then j else i)) M) : Ev (fMax2 [.int i, .int j] M) Q E := by with_unfolding_all exact (h)
theorem ev_min2 {i j : Int} (h : Q (.int (if j < i then j else i)) M) : Ev (fMin2 [.int i, .int j] M) Q E := by with_unfolding_all exact (h)
theorem ev_slL {ds : List D} {lo hi : Option Int} (h : Q (.lst (cutL ds lo hi)) M) : Ev (fSl (.lst ds) lo hi M) Q E := by with_unfolding_all exact (h)
theorem ev_slT {ds : List D} {lo hi : Option Int} (h : Q (.tup (cutL ds lo hi)) M) : Ev (fSl (.tup ds) lo hi M) Q E := by with_unfolding_all exact (h)
theorem ev_slS {z : Str} {lo hi : Option Int} (c : z.length ≤ 16777216) (h : Q (.str (cutS z lo hi)) M) : Ev (fSl (.str z) lo hi M) Q E := by with_unfolding_all exact (ev_guard (show z.length ≤ sizeLine from c) h)
theorem ev_all {bs : List Bool} (h : Q (.bl (bs.all id)) M) : Ev (fAll (.lst (bs.map D.bl)) M) Q E := by
  with_unfolding_all
    have e : bls (bs.map D.bl) = some bs := by
      induction bs with
      | nil => rfl
      | cons b r ih =>
        show (bls (r.map D.bl)).map (b :: ·) = _
        have ih' : bls (r.map D.bl) = some r := by
          clear h ih
          induction r with
          | nil => rfl
          | cons c r ih =>
            show (bls (r.map D.bl)).map (c :: ·) = _
            rw [ih]
            rfl
        rw [ih']
        rfl
    show Ev (match bls (bs.map D.bl) with
      | some bs => .ok (.bl (bs.all id)) M
      | none => .bad) Q E
    rw [e]
    exact h
theorem es_par {i j : Nat} (h : Ev (sa ρ M) (fun ds M1 => ∃ a b, ds = [a, b] ∧ k.nx ((ρ.set i (.val a)).set j (.val b)) M1) (k.ex ρ)) : Es (mPar i j sa ρ M) k := by with_unfolding_all exact (es_lift (h.mono fun ds M1 ⟨a, b, e, h⟩ => by subst e; exact h))
theorem ev_listA {ds : List D} (h : Q (.lst ds) M) : Ev ((f1 fList1 [.lst ds] M).els (f1 fListD [.lst ds] M)) Q E := by with_unfolding_all exact (h)
theorem ev_listT {ds : List D} (h : Q (.lst ds) M) : Ev ((f1 fList1 [.tup ds] M).els (f1 fListD [.tup ds] M)) Q E := by with_unfolding_all exact (h)
theorem ev_listO {j : Nat} {ks : List Key} {vs : List D} (e : M[j]? = some (.dct ks vs)) (h : Q (.lst (ks.map keyD)) M) : Ev ((f1 fList1 [.obj j] M).els (f1 fListD [.obj j] M)) Q E := by
  with_unfolding_all
    refine ev_els_r (show f1 fList1 [.obj j] M = .bad from rfl) ?_
    show Ev (match dctOf (.obj j) M with
      | some (ks, _) => Res.ok (D.lst (ks.map keyD)) M
      | none => .bad) Q E
    have : dctOf (.obj j) M = some (ks, vs) := by
      show (match M[j]? with
        | some (.dct ks vs) => some (ks, vs)
        | _ => none) = some (ks, vs)
      rw [e]
    rw [this]
    exact h
/-- a filter whose tests are some truths -/
theorem ev_lcSub {mg : SG} {t : ST} {ds : List D} (h : ∀ d, d ∈ ds → ∃ ρ1, mg d ρ = some ρ1 ∧ Ev (t ρ1 M) (fun _ M' => M' = M) noE ∧ Ev (m ρ1 M) (fun y M' => y = d ∧ M' = M) noE) (hq : ∀ ys : List D, ys.Sublist ds → QL ys M) : Ev (lcGo ρ mg t m ds M) QL E := by
  induction ds generalizing QL with
  | nil => exact ev_lcNil (hq [] (List.Sublist.refl _))
  | cons d r ih =>
    obtain ⟨ρ1, e, h1, h2⟩ := h d (List.mem_cons_self ..)
    refine ev_lcCons e (h1.mono fun b M1 e1 => ?_)
    subst e1
    refine ⟨fun z => ?_, fun z => ?_⟩
    · refine h2.mono fun y M2 h3 => ?_
      obtain ⟨rfl, rfl⟩ := h3
      exact ih (fun d hd => h d (List.mem_cons_of_mem _ hd)) fun ys hs => hq _ (hs.cons₂ _)
    · exact ih (fun d hd => h d (List.mem_cons_of_mem _ hd)) fun ys hs => hq _ (hs.cons _)
theorem ev_get (h : Ev (mo ρ M) (fun x M1 => Ev (mi ρ M1) (fun y M2 => ∃ j k ks vs d, x = .obj j ∧ keyOf y = some k ∧ M2[j]? = some (.dct ks vs) ∧ valD k ks vs = some d ∧ Q d M2) E) E) : Ev (mGet mo mi ρ M) Q E := by with_unfolding_all exact (ev_bind (h.mono fun x M1 h => ev_bind (h.mono fun y M2 ⟨j, k, ks, vs, d, e1, e2, e3, e4, hq⟩ => by
  subst e1
  have e5 : dctOf (.obj j) M2 = some (ks, vs) := by
    show (match M2[j]? with
      | some (.dct ks vs) => some (ks, vs)
      | _ => none) = some (ks, vs)
    rw [e3]
  unfold fGet
  rw [e5, e2]
  show Ev (match valD k ks vs with
    | some d => .ok d M2
    | none => .bad) Q E
  rw [e4]
  exact hq)))
theorem ev_dfilt {d x r j : Nat} {z : Str} {ks : List Key} {ss : List Str} (e1 : ρ[d]? = some (.val (.obj j))) (e2 : ρ[r]? = some (.val (.str z))) (c : d ≠ x ∧ r ≠ x ∧ x < ρ.length) (e3 : M[j]? = some (.dct ks (ss.map D.str))) (c2 : ks.length ≤ 16777216 ∧ ks.Nodup) (h : Q (.lst (dfK z ks ss)) M) : Ev (mDFilt d x r ρ M) Q E := by
  with_unfolding_all
    unfold mDFilt
    rw [e1, e2]
    show Ev (if d ≠ x ∧ r ≠ x ∧ x < ρ.length then dfilt1 z M (M[j]?) else .bad) Q E
    rw [if_pos c, e3]
    have e4 : strsD (ss.map D.str) = some ss := by
      clear h c2 e3
      induction ss with
      | nil => rfl
      | cons s r ih =>
        show (strsD (r.map D.str)).map (s :: ·) = _
        rw [ih]
        rfl
    show Ev (dfilt2 z ks M (strsD (ss.map D.str))) Q E
    rw [e4]
    exact ev_guard (show ks.length ≤ sizeLine ∧ ks.Nodup from c2) h
theorem es_putD (h : Ev (me ρ M) (fun d M1 => Ev (mo ρ M1) (fun x M2 => Ev (mi ρ M2) (fun y M3 => ∃ j kk ks vs, x = .obj j ∧ keyOf y = some kk ∧ M3[j]? = some (.dct ks vs) ∧ ks.length < 16777216 ∧ k.nx ρ (M3.set j (.dct (putKs kk ks) (putVs kk d ks vs)))) (k.ex ρ)) (k.ex ρ)) (k.ex ρ)) : Es (mPutD me mo mi ρ M) k := by with_unfolding_all exact (es_lift (h.mono fun d M1 h => es_lift (h.mono fun x M2 h => es_lift (h.mono fun y M3 ⟨j, kk, ks, vs, e1, e2, e3, c, hk⟩ => by
    subst e1
    show Es (fPut1 d ρ M3 (objOf (.obj j)) (keyOf y)) k
    rw [e2]
    show Es (fPut2 d ρ M3 j kk (M3[j]?)) k
    rw [e3]
    show Es (if ks.length < sizeLine then .ok (.nx ρ) (M3.set j (.dct (putKs kk ks) (putVs kk d ks vs))) else .bad) k
    rw [if_pos (show ks.length < sizeLine from c)]
    exact hk))))
end
end DL

end
section
set_option maxHeartbeats 4000000
namespace LM
open PySem PySem.Spec PyProof.Rows L2 DL
section
variable {α β : Type} {ρ : Rho} {M : Mem} {E : EX} {Q : D → Mem → Prop} {sa : SA} {k : Ks} {sm : SS}
theorem es_raise {c code : Str} {fs : List Str} (h : Ev (sa ρ M) (fun ds M1 => ds.length = fs.length ∧ k.ex ρ c (exNs fs ["code"]) (exDs fs ds [.str code]) M1) (k.ex ρ)) : Es (mRaise c code fs sa ρ M) k := by
  with_unfolding_all
    exact (es_lift (h.mono fun ds M1 h => by
      show Es (if ds.length = fs.length then .ok (.ex ρ c (exNs fs ["code"]) (exDs fs ds [.str code])) M1 else .bad) k
      rw [if_pos h.1]
      exact h.2))
theorem ev_lamE {ti : Nat} {P : Addr} {F : LamC} {cl : List (Str × Addr)} (e : M[ti]? = some (.tbl P F.qual)) (h : Q (.lam F cl) M) : Ev (mLam ti P F cl ρ M) Q E := by
  with_unfolding_all
    unfold mLam
    rw [e]
    exact ev_guard ⟨rfl, rfl⟩ h
theorem ev_lamB {m : SE} {ds : List D} (h : Ev (m (ds.map Sl.val) M) Q E) : Ev (mLamB m ds M) Q E := h
theorem ev_act {tab : List (LamC × GF)} {F : LamC} {cl : List (Str × Addr)} {es : List (Addr × D)} {ds : List D} {gf : GF} (e1 : capsD F.caps cl es = some ds) (e2 : tabF tab F = some gf) (h : Ev (gf ds M) Q E) : Ev (actGo tab (some (.env es)) (.lam F cl) M) Q E := by
  unfold actGo
  show Ev (match capsD F.caps cl es, tabF tab F with
    | some ds, some gf => gf ds M
    | _, _ => .bad) Q E
  rw [e1, e2]
  exact h
theorem es_why {tab : List (LamC × GF)} {g i j : Nat} {told f : Str} {cs : List Str} {gf : GC} {d : D} (e : ρ[i]? = some (.val d)) (hj : j < ρ.length)
    (h : Ev (actGo tab ρ[g]? d M) (fun x M1 => k.rt (.tup [.str told, x]) M1) (fun c ns ds M1 => c ∈ cs ∧ ∃ d1, fldD f ns ds = some d1 ∧ Ev (gf c ns ds M1) (fun d2 M2 => k.rt (.tup [d1, d2]) M2) noE)) : Es (mWhy tab g i j told f cs gf ρ M) k := by
  have e0 : mVar i ρ M = .ok d M := by unfold mVar; rw [e]
  have e1 : mAct tab g (mVar i) ρ M = actGo tab ρ[g]? d M := by
    unfold mAct
    rw [e0]
    rfl
  unfold mWhy
  rw [e1]
  cases er : actGo tab ρ[g]? d M with
  | ok x M1 =>
    rw [er] at h
    with_unfolding_all exact h
  | bad =>
    rw [er] at h
    with_unfolding_all exact h
  | exc c ns ds M1 =>
    rw [er] at h
    have h' : c ∈ cs ∧ ∃ d1, fldD f ns ds = some d1 ∧ Ev (gf c ns ds M1) (fun d2 M2 => k.rt (.tup [d1, d2]) M2) noE := by with_unfolding_all exact h
    obtain ⟨h1, d1, h2, h3⟩ := h'
    show Es (if c ∈ cs ∧ j < ρ.length then (match fldD f ns ds with
      | some d1 => (match gf c ns ds M1 with
        | .ok d2 M2 => .ok (.rt (.tup [d1, d2])) M2
        | _ => .bad)
      | none => .bad) else .bad) k
    rw [if_pos ⟨h1, hj⟩, h2]
    show Es (match gf c ns ds M1 with
        | .ok d2 M2 => .ok (.rt (.tup [d1, d2])) M2
        | _ => .bad) k
    obtain ⟨d2, M2, e2, h4⟩ := h3.ex
    rw [e2]
    with_unfolding_all exact h4
theorem ev_end {r : Res Fl} (h : Es r { nx := fun _ M => Q .non M, rt := Q, ex := fun _ => E }) : Ev (endB r) Q E := by
  with_unfolding_all
    cases r with
    | ok fl M1 =>
      cases fl with
      | nx ρ => exact h
      | rt d => exact h
      | bk ρ => exact False.elim h
      | ct ρ => exact False.elim h
      | ex ρ c ns ds => exact h
    | exc c ns ds M1 => exact False.elim h
    | bad => exact False.elim h
theorem ev_bodyE {N g : Nat} {es : List (Addr × D)} {ds : List D} (h : Es (sm ((rho0 N ds).set g (.env es)) M) { nx := fun _ M => Q .non M, rt := Q, ex := fun _ => E }) : Ev (mBodyE N g sm es ds M) Q E := ev_end h
theorem ev_bodyF {N : Nat} {c : Str} {ns : List Str} {ds : List D} (h : Es (sm (rhoC N c ns ds) M) { nx := fun _ M => Q .non M, rt := Q, ex := fun _ => E }) : Ev (mBodyF N sm c ns ds M) Q E := ev_end h
theorem ev_cau {cs : List Str} {i : Nat} {f c : Str} {ns : List Str} {ds : List D} {d : D} (e : ρ[i]? = some (.cau c ns ds)) (hc : c ∈ cs) (e2 : fldD f ns ds = some d) (h : Q d M) : Ev (mCau cs i f ρ M) Q E := by
  with_unfolding_all
    unfold mCau
    rw [e]
    show Ev (if c ∈ cs then (match fldD f ns ds with
      | some d => .ok d M
      | none => .bad) else .bad) Q E
    rw [if_pos hc, e2]
    exact h
theorem ev_callB {n : Nat} {ge : GE} {cs : List (Addr × Nat)} (h : Ev (sa ρ M) (fun ds M1 => ds.length = n ∧ Ev (ge (envOf cs ρ) ds M1) Q noE) E) : Ev (mCallB n ge cs sa ρ M) Q E := ev_bind (h.mono fun ds M1 h => ev_guard h.1 (ev_noX h.2))
theorem ev_callEnv {n g : Nat} {ge : GE} {es : List (Addr × D)} (e : ρ[g]? = some (.env es)) (h : Ev (sa ρ M) (fun ds M1 => ds.length = n ∧ Ev (ge es ds M1) Q E) E) : Ev (mCallEnv n ge g sa ρ M) Q E := by
  unfold mCallEnv
  refine ev_bind (h.mono fun ds M1 h => ?_)
  rw [e]
  exact ev_guard h.1 h.2
theorem es_par3 {i j l : Nat} (h : Ev (sa ρ M) (fun ds M1 => ∃ a b c, ds = [a, b, c] ∧ k.nx (((ρ.set i (.val a)).set j (.val b)).set l (.val c)) M1) (k.ex ρ)) : Es (mPar3 i j l sa ρ M) k := by with_unfolding_all exact (es_lift (h.mono fun ds M1 ⟨a, b, c, e, h⟩ => by subst e; exact h))
end
end LM
namespace DL
open PySem PySem.Spec PyProof.Rows L2
theorem ev_eqOwn {c c' : Str} {neg : Bool} {rs : List TyE} {g : GF} {x y : D} {ns : List Str} {vs : List D} {t : TyE} {M : Mem} {Q : D → Mem → Prop} {E : EX} (e : insOf x M = some (c, ns, vs)) (e2 : tyR y M = some t) (h : t ∈ rs) (q : Ev (g [x, y] M) (fun d M1 => ∃ b, d = .bl b ∧ Q (.bl (if neg then !b else b)) M1) noE) : Ev (fEqOwn c neg rs g x y M) Q E := by
  unfold fEqOwn
  rw [e, e2]
  show Ev (if c = c ∧ t ∈ rs then ownEnd neg (g [x, y] M) else .bad) Q E
  rw [if_pos ⟨rfl, h⟩]
  exact ev_bind (ev_noX (q.mono fun d M1 ⟨b, e, h⟩ => by subst e; exact ev_ok h))
theorem eqOwn_bad {c c' : Str} {neg : Bool} {rs : List TyE} {g : GF} {x y : D} {ns : List Str} {vs : List D} {M : Mem} (e : insOf x M = some (c', ns, vs)) (h : ¬ c' = c) : fEqOwn c neg rs g x y M = .bad := by
  unfold fEqOwn
  rw [e]
  cases tyR y M with
  | none => rfl
  | some t => exact if_neg fun z => h z.1
theorem ev_reprOwn {c : Str} {g : GF} {x : D} {ns : List Str} {vs : List D} {M : Mem} {Q : D → Mem → Prop} {E : EX} (e : insOf x M = some (c, ns, vs)) (q : Ev (g [x] M) (fun d M1 => ∃ z, d = .str z ∧ Q (.str z) M1) noE) : Ev (f1 (fReprOwn c g) [x] M) Q E := by
  show Ev (fReprOwn c g x M) Q E
  unfold fReprOwn
  rw [e]
  show Ev (if c = c then strEnd (g [x] M) else .bad) Q E
  rw [if_pos rfl]
  exact ev_bind (ev_noX (q.mono fun d M1 ⟨b, e, h⟩ => by subst e; exact ev_ok h))
theorem reprOwn_bad {c c' : Str} {g : GF} {x : D} {ns : List Str} {vs : List D} {M : Mem} (e : insOf x M = some (c', ns, vs)) (h : ¬ c' = c) : f1 (fReprOwn c g) [x] M = .bad := by
  show fReprOwn c g x M = .bad
  unfold fReprOwn
  rw [e]
  exact if_neg h
theorem ev_isiO {cs : List Str} {tab : List (TyE × Str × Bool)} {d : D} {c : Str} {t : TyE} {b : Bool} {M : Mem} {Q : D → Mem → Prop} {E : EX} (e : tyE d M = some t) (h1 : ownOk cs t = true) (h2 : isiTab tab t c = some b) (q : Q (.bl b) M) : Ev (fIsiO cs tab [d, .cls c] M) Q E := by
  show Ev (fIsiE cs tab c (tyE d M) M) Q E
  rw [e]
  show Ev (if ownOk cs t = true then (match isiTab tab t c with
    | some b => .ok (.bl b) M
    | none => .bad) else .bad) Q E
  rw [if_pos h1, h2]
  exact ev_ok q
theorem empty_app {a : Str} : Str.empty ++ a = a := by
  cases a
  show Str.mk ((#[] : Array Nat) ++ _) = _
  simp
theorem set_push {M : List MO} {o u : MO} : (M ++ [o]).set M.length u = M ++ [u] := by simp
theorem ev_mul4I {i j : Int} {M : Mem} {E : EX} {Q : D → Mem → Prop} (c : (-(2 ^ 64) < i ∧ i < 2 ^ 64) ∨ (-(2 ^ 64) < j ∧ j < 2 ^ 64)) (h : Q (.int (i * j)) M) : Ev (LM.fMul4 (.int i) (.int j) M) Q E := ev_els_l (ev_mulI c h)
theorem ev_mul4L {i : List D} {n : Int} {M : Mem} {E : EX} {Q : D → Mem → Prop} (c : 0 ≤ n ∧ n < 2 ^ 63 ∧ i.length * n.toNat ≤ 16777216) (h : Q (.lst (List.replicate n.toNat i).flatten) M) : Ev (LM.fMul4 (.lst i) (.int n) M) Q E := ev_els_l (ev_mulL c h)
theorem ev_mul4S {z : Str} {n : Int} {M : Mem} {E : EX} {Q : D → Mem → Prop} (c : z.length ≤ 1000 ∧ n ≤ 1000 ∧ -1000 ≤ n) (h : Q (.str (Txt.mul z n)) M) : Ev (LM.fMul4 (.str z) (.int n) M) Q E := ev_els_l (ev_mulS c h)
theorem ev_mul4T {i : List D} {n : Int} {M : Mem} {E : EX} {Q : D → Mem → Prop} (c : i ≠ [] ∧ -1000 ≤ n ∧ n ≤ 1000 ∧ i.length ≤ 1000) (h : Q (.tup (List.replicate n.toNat i).flatten) M) : Ev (LM.fMul4 (.tup i) (.int n) M) Q E := by
  with_unfolding_all
    refine ev_els_r rfl ?_
    by_cases c1 : n = 1
    · subst c1
      refine ev_els_l (show Ev (if (1 : Int) = 1 then Res.ok (D.tup i) M else .bad) Q E from ev_guard rfl ?_)
      have e : (List.replicate (1 : Int).toNat i).flatten = i := by simp
      rw [e] at h
      exact h
    · refine ev_els_r (if_neg c1) ?_
      by_cases c0 : n ≤ 0
      · refine ev_els_l (show Ev (if i ≠ [] ∧ -1000 ≤ n ∧ n ≤ 0 then Res.ok (D.tup []) M else .bad) Q E from ev_guard ⟨c.1, c.2.1, c0⟩ ?_)
        have e : (List.replicate n.toNat i).flatten = [] := by
          have : n.toNat = 0 := by omega
          rw [this]
          rfl
        rw [e] at h
        exact h
      · refine ev_els_r (if_neg fun z => c0 z.2.2) ?_
        exact (show Ev (if i ≠ [] ∧ 2 ≤ n ∧ n ≤ 1000 ∧ i.length ≤ 1000 then Res.ok (D.tup (List.replicate n.toNat i).flatten) M else .bad) Q E from ev_guard ⟨c.1, by omega, c.2.2.1, c.2.2.2⟩ h)
theorem ev_eqP {x y : D} {p q : PyData} {M : Mem} {E : EX} {Q : D → Mem → Prop} (e0 : fEqS false x y M = .bad) (e1 : pyM M x = some p) (e2 : pyM M y = some q) (s1 : SeqAt.shaped p = true) (s2 : SeqAt.shaped q = true) (h : Q (.bl (PyData.eqv p q)) M) : Ev (fEqA x y M) Q E := by
  refine ev_els_r e0 ?_
  unfold fEqM
  rw [e1, e2]
  show Ev (if (SeqAt.shaped p && SeqAt.shaped q) = true then Res.ok (D.bl (PyData.eqv p q)) M else .bad) Q E
  rw [s1, s2]
  exact ev_ok h
theorem ev_neP {x y : D} {p q : PyData} {M : Mem} {E : EX} {Q : D → Mem → Prop} (e0 : fEqS true x y M = .bad) (e1 : pyM M x = some p) (e2 : pyM M y = some q) (s1 : SeqAt.shaped p = true) (s2 : SeqAt.shaped q = true) (h : Q (.bl (!PyData.eqv p q)) M) : Ev (fNeA x y M) Q E := by
  refine ev_els_r e0 ?_
  unfold fEqM
  rw [e1, e2]
  show Ev (if (SeqAt.shaped p && SeqAt.shaped q) = true then Res.ok (D.bl (!PyData.eqv p q)) M else .bad) Q E
  rw [s1, s2]
  exact ev_ok h
end DL

end
section
set_option maxHeartbeats 4000000
namespace DL
open PySem PySem.Spec PyProof.Rows L2
/-- the memory begins with the table and the bag -/
def IsBag (M : Mem) : Prop := ∃ (o0 : MO) (ns : List Int) (n sd : Int) (tl : Mem), M = o0 :: .lst (ns.map D.int) :: .lst [.obj 1, .int n, .int sd] :: tl ∧ 0 ≤ n ∧ 0 ≤ sd ∧ sd < 2147483563
structure Bg (M M' : Mem) : Prop where
  bag : IsBag M'
  len : M.length ≤ M'.length
  tbl : M'[0]? = M[0]?
  keep : ∀ j, 3 ≤ j → j < M.length → M'[j]? = M[j]?
theorem Bg.refl {M : Mem} (h : IsBag M) : Bg M M := ⟨h, Nat.le_refl _, rfl, fun _ _ _ => rfl⟩
theorem Bg.trans {M M1 M2 : Mem} (a : Bg M M1) (b : Bg M1 M2) : Bg M M2 := ⟨b.bag, Nat.le_trans a.len b.len, b.tbl.trans a.tbl, fun j h1 h2 => (b.keep j h1 (Nat.lt_of_lt_of_le h2 a.len)).trans (a.keep j h1 h2)⟩
theorem Bg.get {M M1 : Mem} (a : Bg M M1) {j : Nat} {o : MO} (h1 : 3 ≤ j) (h2 : M[j]? = some o) : M1[j]? = some o := (a.keep j h1 (List.getElem?_eq_some_iff.mp h2).1).trans h2
theorem IsBag.two {M : Mem} (h : IsBag M) : 3 ≤ M.length := by
  obtain ⟨o0, ns, n, sd, tl, rfl, _⟩ := h
  simp
/-- something is laid at the end -/
theorem Bg.push {M : Mem} (h : IsBag M) (o : MO) : Bg M (M ++ [o]) := by
  obtain ⟨o0, ns, n, sd, tl, rfl, h1⟩ := h
  exact ⟨⟨o0, ns, n, sd, tl ++ [o], rfl, h1⟩, by simp, rfl, fun j _ h => List.getElem?_append_left h⟩
/-- a thing that was laid later is written -/
theorem Bg.set {M M1 : Mem} (a : Bg M M1) {j : Nat} (hj : M.length ≤ j) (h2 : 3 ≤ j) (o : MO) : Bg M (M1.set j o) := by
  refine ⟨?_, by rw [List.length_set]; exact a.len, by rw [List.getElem?_set_ne (by omega)]; exact a.tbl, fun i h1 h3 => ?_⟩
  · obtain ⟨o0, ns, n, sd, tl, e, h⟩ := a.bag
    subst e
    match j, h2 with
    | j + 3, _ => exact ⟨o0, ns, n, sd, tl.set j o, rfl, h⟩
  · rw [List.getElem?_set_ne (by omega)]
    exact a.keep i h1 h3
theorem get_set {M : Mem} {j : Nat} {o u : MO} (h : M[j]? = some u) : (M.set j o)[j]? = some o := List.getElem?_set_self (List.getElem?_eq_some_iff.mp h).1
theorem get_push {M : Mem} {o : MO} : (M ++ [o])[M.length]? = some o := List.getElem?_concat_length ..
end DL

end
section
set_option maxHeartbeats 4000000
local macro_rules | `(tactic| walk_at "EV") => `(tactic| (first | (with_reducible first | refine DL.es_seq ?_ | refine DL.es_asg ?_ | refine DL.es_if ?_ | refine DL.es_ret ?_ | refine DL.es_drop ?_ | refine DL.es_next ?_ | refine DL.es_retN ?_ | refine DL.es_for ?_ | refine DL.es_break ?_ | refine DL.es_cont ?_ | refine DL.es_forNil ?_ | refine DL.ev_c ?_ | refine DL.ev_op ?_ | refine DL.ev_cons ?_ | refine DL.ev_nil ?_ | refine DL.ev_star ?_ | refine DL.ev_tup ?_ | refine DL.ev_lst ?_ | refine DL.ev_own ?_ | refine DL.ev_test ?_ | refine DL.ev_and ?_ | refine DL.ev_or ?_ | refine DL.ev_not ?_ | refine DL.ev_b ?_ | refine DL.ev_yes ?_ | refine DL.ev_ifE ?_ | refine DL.ev_chain ?_ | refine DL.ev_noPart ?_ | refine DL.ev_part ?_ | refine DL.ev_sl ?_ | refine DL.ev_m1 ?_ | refine DL.ev_cb ?_ | refine DL.ev_f1 ?_ | refine DL.ev_call ?_ | refine DL.ev_callK ?_ | refine DL.ev_lc ?_ | refine DL.ev_any ?_ | refine DL.ev_items_lst ?_ | refine DL.ev_items_tup ?_ | refine DL.ev_items_str ?_ | refine DL.ev_rng1 ?_ | refine DL.ev_rng2 ?_ | refine DL.ev_zip ?_ | refine DL.ev_fld ?_ | refine DL.ev_prop ?_ | refine DL.ev_meth ?_ | refine DL.ev_make ?_ | refine DL.ev_makeK ?_ | refine DL.ev_makeKR ?_ | refine DL.ev_fmt ?_ | refine DL.ev_joined ?_ | refine DL.ev_jsCons ?_ | refine DL.ev_jsNil ?_ | refine DL.ev_cvI ?_ | refine DL.ev_append ?_ | refine DL.ev_insert ?_ | refine DL.es_fldSet ?_ | refine DL.es_setIx ?_ | refine DL.es_par ?_ | refine DL.ev_listA ?_ | refine DL.ev_listT ?_ | refine DL.ev_get ?_ | refine DL.es_putD ?_ | refine DL.ev_addI ?_ | refine DL.ev_subI ?_ | refine DL.ev_lt ?_ | refine DL.ev_le ?_ | refine DL.ev_gt ?_ | refine DL.ev_ge ?_ | refine DL.ev_eqI ?_ | refine DL.ev_eqS ?_ | refine DL.ev_eqB ?_ | refine DL.ev_neI ?_ | refine DL.ev_neS ?_ | refine DL.ev_int1I ?_ | refine DL.ev_int1B ?_ | refine DL.ev_str1S ?_ | refine DL.ev_tuple1L ?_ | refine DL.ev_tuple1T ?_ | refine DL.ev_max2 ?_ | refine DL.ev_min2 ?_ | refine DL.ev_slL ?_ | refine DL.ev_slT ?_ | refine DL.ev_lenL ?_ | refine DL.ev_lenT ?_ | refine DL.br_t ?_ | refine DL.br_f ?_ | refine DL.br_n ?_ | refine DL.br_and ?_ | refine DL.br_or ?_) | ((with_reducible apply DL.ev_var); (focus (exact rfl))) | ((with_reducible apply DL.es_fz); (focus (exact rfl)); (focus (first | assumption | exact DL.get_push | exact rfl))) | ((with_reducible apply DL.ev_mod); (focus (first | omega | (simp; omega) | (simp; done) | decide))) | ((with_reducible apply DL.ev_fdiv); (focus (first | omega | (simp; omega) | (simp; done) | decide)); (focus (first | omega | (simp; omega) | (simp; done) | decide))) | ((with_reducible apply DL.ev_mulI); (focus (first | omega | (simp; omega) | (simp; done) | decide))) | ((with_reducible apply DL.ev_mul4I); (focus (first | omega | (simp; omega) | (simp; done) | decide))) | ((with_reducible apply DL.ev_ixL); (focus (exact rfl))) | ((with_reducible apply DL.ev_ixT); (focus (exact rfl))) | ((with_reducible apply DL.ev_ixO); (focus (first | assumption | exact DL.get_push | exact rfl)); (focus (exact rfl))) | ((with_reducible apply DL.ev_isi); (focus (exact rfl))) | ((with_reducible apply DL.ev_isN); (focus (exact rfl))) | ((with_reducible apply DL.ev_lenM); (focus (first | assumption | exact DL.get_push | exact rfl))) | ((with_reducible apply DL.ev_listO); (focus (first | assumption | exact DL.get_push | exact rfl))) | ((with_reducible apply DL.ev_bodyS)) | ((with_reducible apply DL.ev_body)) | with_reducible apply Exists.intro | ((with_reducible apply And.intro); (focus (first | exact rfl | omega | (simp; omega) | (simp; done) | decide | assumption | (constructor <;> omega) | exact Or.inl rfl | exact Or.inr rfl | exact DL.get_push))) | ((with_reducible apply DL.br_dt); (focus (first | assumption | omega | decide +kernel))) | ((with_reducible apply DL.br_df); (focus (first | assumption | omega | decide +kernel))) | ((with_reducible apply DL.br_eqT); (focus (first | exact rfl | assumption))) | ((with_reducible apply DL.br_eqF); (focus (first | exact rfl | assumption)))))
namespace DL
open PySem PySem.Spec PyProof.Rows L2
theorem cut_all {α : Type} {xs : List α} {k : Nat} (h : xs.length ≤ k) : cutL xs none (some (k : Int)) = xs := by
  unfold cutL
  rw [HT.sIx_nat, HT.sIx_none, List.drop_zero, Nat.sub_zero, Nat.min_eq_right h, List.take_length]
end DL
namespace G
open PySem PySem.Spec PyProof.Rows L2 DL
theorem ev_popAt0 {ρ : Rho} {M : Mem} {E : EX} {Q : D → Mem → Prop} {mo : SE} (h : Ev (mo ρ M) (fun x M1 => ∃ j d ds, x = .obj j ∧ M1[j]? = some (.lst (d :: ds)) ∧ Q d (M1.set j (.lst ds))) E) : Ev (mPopAt mo 0 ρ M) Q E := ev_bind (h.mono fun x M1 ⟨j, d, ds, e1, e2, h⟩ => by
  subst e1
  rw [fPop_go, e2, pop2_ok]
  exact ev_ok h)
theorem ev_pow {i j : Int} {M : Mem} {E : EX} {Q : D → Mem → Prop} (c : 0 ≤ j ∧ j ≤ 1000000 ∧ i.natAbs < 2 ^ 64) (h : Q (.int (i ^ j.toNat)) M) : Ev (fPow (.int i) (.int j) M) Q E := ev_okE (fPow_int c) h
def TkQ (m : Int) (o0 : MO) (tl : Mem) : D → Mem → Prop := fun d M' => ∃ (k : Int) (ns : List Int) (n sd : Int), d = .int k ∧ 0 ≤ k ∧ k < m ∧ M' = o0 :: .lst (ns.map D.int) :: .lst [.obj 1, .int n, .int sd] :: tl ∧ 0 ≤ n ∧ 0 ≤ sd ∧ sd < 2147483563
theorem tk_intro {m : Int} {o0 : MO} {tl : Mem} {k n sd : Int} {ns : List Int} (h1 : 0 ≤ k) (h2 : k < m) (h3 : 0 ≤ n) (h4 : 0 ≤ sd) (h5 : sd < 2147483563) : TkQ m o0 tl (.int k) (o0 :: .lst (ns.map D.int) :: .lst [.obj 1, .int n, .int sd] :: tl) := ⟨k, ns, n, sd, rfl, h1, h2, rfl, h3, h4, h5⟩
theorem take_ev {m n sd : Int} {ns : List Int} {o0 : MO} {tl : Mem} (hn : 0 ≤ n) (s0 : 0 ≤ sd) (s1 : sd < 2147483563) (h0 : 0 < m) (h1 : m < 2 ^ 62) : Ev (g_law_take [.obj 2, .int m] (o0 :: .lst (ns.map D.int) :: .lst [.obj 1, .int n, .int sd] :: tl)) (TkQ m o0 tl) noE := by
  have eN : ∀ ns : List Int, fNeA (.obj 1) (.lst []) (o0 :: .lst (ns.map D.int) :: .lst [.obj 1, .int n, .int sd] :: tl) = .ok (.bl (!ns.isEmpty)) (o0 :: .lst (ns.map D.int) :: .lst [.obj 1, .int n, .int sd] :: tl) := fun ns => fNeA_cells (by rfl)
  unfold g_law_take m_law_take
  refine ev_body ?_
  by_cases c : n = 0
  · cases ns with
    | nil =>
      (repeat (first | (refine ev_okE (eN []) ?_) | walk_at "EV"))
      exact tk_intro (ns := []) (Int.emod_nonneg _ (by omega)) (Int.emod_lt_of_pos _ h0) hn (Int.emod_nonneg _ (by omega)) (Int.emod_lt_of_pos _ (by omega))
    | cons a r =>
      (repeat (first | (refine ev_okE (eN (a :: r)) ?_) | (with_reducible refine ev_popAt0 ?_) | ((with_reducible apply ev_pow); (focus decide)) | walk_at "EV"))
      by_cases c2 : (10 : Int) ^ 18 ≤ a
      · (repeat (walk_at "EV"))
        exact tk_intro (ns := r) (Int.emod_nonneg _ (by omega)) (Int.emod_lt_of_pos _ h0) (Int.ediv_nonneg (show (0:Int) ≤ a by omega) (by omega)) s0 s1
      · (repeat (walk_at "EV"))
        exact tk_intro (ns := r) (Int.emod_nonneg _ (by omega)) (Int.emod_lt_of_pos _ h0) hn (Int.emod_nonneg _ (by omega)) (Int.emod_lt_of_pos _ (by omega))
  · (repeat (walk_at "EV"))
    exact tk_intro (Int.emod_nonneg _ (by omega)) (Int.emod_lt_of_pos _ h0) (Int.ediv_nonneg hn (by omega)) s0 s1
/-- a draw -/
theorem take_ok {M : Mem} {m : Int} (h : IsBag M) (h0 : 0 < m) (h1 : m < 2 ^ 62) : Ev (g_law_take [.obj 2, .int m] M) (fun d M' => ∃ k : Int, d = .int k ∧ (0 ≤ k ∧ k < m) ∧ Bg M M') noE := by
  obtain ⟨o0, ns, n, sd, tl, rfl, hn, s0, s1⟩ := h
  refine (take_ev hn s0 s1 h0 h1).mono fun d M' ⟨k, ns', n', sd', e, k0, k1, e2, hn', s0', s1'⟩ => ⟨k, e, ⟨k0, k1⟩, ?_⟩
  subst e2
  exact ⟨⟨o0, ns', n', sd', tl, rfl, hn', s0', s1'⟩, by simp, rfl, fun j h1 h2 => by
    match j, h1 with
    | j + 3, _ => rfl⟩
/-- the same, for what follows -/
theorem take_c {M : Mem} {m : Int} {Q : D → Mem → Prop} {E : EX} (h : IsBag M) (h0 : 0 < m) (h1 : m < 2 ^ 62) (q : ∀ (k : Int) (M' : Mem), 0 ≤ k → k < m → Bg M M' → Q (.int k) M') : Ev (g_law_take [.obj 2, .int m] M) Q E :=
  ((take_ok h h0 h1).mono fun d M' ⟨k, e, ⟨k0, k1⟩, b⟩ => by subst e; exact q k M' k0 k1 b).noE
theorem bag_c {ns : List Int} {Q : D → Mem → Prop} {E : EX} (h : ns.length ≤ 63) {P : Addr} {z : Str} (q : ∀ M', IsBag M' → M'[0]? = some (.tbl P z) → Q (.obj 2) M') : Ev (g_law_bag [.scr ns] [.tbl P z]) Q E := by
  have ec : cutL ns none (some 63) = ns := cut_all (k := 63) h
  have slE : ∀ M, fSl (.scr ns) none (some 63) M = .ok (.lst (ns.map D.int)) M := fun M => by
    show Res.ok (D.lst ((cutL ns none (some 63)).map D.int)) M = _
    rw [ec]
  unfold g_law_bag m_law_bag
  refine ev_body ?_
  (repeat (first | (refine ev_okE (slE _) ?_) | walk_at "EV"))
  refine ev_lcMap id (fun d hd => ?_) ?_
  · obtain ⟨i, hi, rfl⟩ := List.mem_map.mp hd
    exact ⟨_, rfl, ev_cb (ev_cons (ev_var rfl (ev_nil (ev_f1 (ev_int1I ⟨rfl, rfl⟩)))))⟩
  · rw [List.map_id]
    (repeat (first | (refine ev_okE (slE _) ?_) | walk_at "EV"))
    exact q _ ⟨.tbl P z, ns, 0, 5787 + 37 * ((ns.map D.int).length : Int), [], rfl, by omega, by omega, by rw [List.length_map]; omega⟩ rfl
end G

end
section
set_option maxHeartbeats 4000000
namespace DL
open PySem PySem.Spec PyProof.Rows L2
/-- a text by its signs -/
def sg (cs : List Nat) : Str := ⟨cs.toArray⟩
theorem sg_cps (cs : List Nat) : (sg cs).cps.toList = cs := rfl
theorem sg_len (cs : List Nat) : (sg cs).length = cs.length := by simp [sg, Str.length]
theorem sg_app (a b : List Nat) : sg a ++ sg b = sg (a ++ b) := by
  show Str.append (sg a) (sg b) = sg (a ++ b)
  unfold Str.append sg
  simp
theorem sg_inj {a b : List Nat} (h : sg a = sg b) : a = b := by
  have := congrArg (fun z : Str => z.cps.toList) h
  exact this
theorem cut_lo (cs : List Nat) (k : Nat) (h : k ≤ cs.length) : cutS (sg cs) none (some (k : Int)) = sg (cs.take k) := by
  unfold cutS
  rw [sg_len, HT.sIx_nat, HT.sIx_none, sg_cps, List.drop_zero, Nat.sub_zero, Nat.min_eq_left h]
  rfl
theorem cut_hi (cs : List Nat) (k : Nat) (h : k ≤ cs.length) : cutS (sg cs) (some (k : Int)) none = sg (cs.drop k) := by
  unfold cutS
  rw [sg_len, HT.sIx_nat, HT.sIx_none, sg_cps, Nat.min_eq_left h, List.take_of_length_le (by simp)]
  rfl
theorem strs_sg : ∀ cs : List Nat, strsD (cs.map fun c => D.str (sg [c])) = some (cs.map fun c => sg [c])
  | [] => rfl
  | c :: r => by
    show (strsD (r.map fun c => D.str (sg [c]))).map (sg [c] :: ·) = _
    rw [strs_sg r]
    rfl
theorem join_sg : ∀ cs : List Nat, Str.join (sg []) (cs.map fun c => sg [c]) = sg cs
  | [] => rfl
  | [c] => rfl
  | c :: d :: r => by
    show sg [c] ++ sg [] ++ Str.join (sg []) ((d :: r).map fun c => sg [c]) = _
    rw [join_sg (d :: r), sg_app, sg_app]
    rfl
theorem sum_one : ∀ cs : List Nat, ((cs.map fun c => sg [c]).map Str.length).sum = cs.length
  | [] => rfl
  | c :: r => by
    show (sg [c]).length + ((r.map fun c => sg [c]).map (·.length)).sum = _
    rw [sum_one r, sg_len]
    simp [Nat.add_comm]
theorem fJoin_sg {cs : List Nat} {M : Mem} (h : cs.length ≤ 16777216) : fJoin (sg []) (.lst (cs.map fun c => .str (sg [c]))) M = .ok (.str (sg cs)) M := by
  show (match strsD (cs.map fun c => D.str (sg [c])) with
    | some ys => if (ys.map Str.length).sum + ys.length * (sg []).length ≤ 16777216 then Res.ok (D.str (Txt.join (sg []) ys)) M else .bad
    | none => .bad) = _
  rw [strs_sg]
  show (if ((cs.map fun c => sg [c]).map Str.length).sum + (cs.map fun c => sg [c]).length * (sg []).length ≤ 16777216 then Res.ok (D.str (Txt.join (sg []) (cs.map fun c => sg [c]))) M else .bad) = _
  rw [sum_one, sg_len, List.length_nil, Nat.mul_zero, Nat.add_zero, if_pos h, TL.join_eq, join_sg]
theorem nat_of {k : Int} (h : 0 ≤ k) : ∃ n : Nat, k = (n : Int) := ⟨k.toNat, by omega⟩
theorem ints_len (lo : Int) (n : Nat) : (intsD lo n).length = n := by simp [intsD]
/-- drawn signs -/
theorem all_signs {ys : List D} {P : Nat → Prop} (h : ∀ y, y ∈ ys → ∃ c, y = .str (sg [c]) ∧ P c) : ∃ cs : List Nat, ys = cs.map (fun c => .str (sg [c])) ∧ ∀ c, c ∈ cs → P c := by
  induction ys with
  | nil => exact ⟨[], rfl, fun _ h => (nomatch h)⟩
  | cons y r ih =>
    obtain ⟨c, rfl, pc⟩ := h y (List.mem_cons_self ..)
    obtain ⟨cs, rfl, h'⟩ := ih fun z hz => h z (List.mem_cons_of_mem _ hz)
    refine ⟨c :: cs, rfl, fun x hx => ?_⟩
    rcases List.mem_cons.mp hx with e | hx
    · rw [e]; exact pc
    · exact h' x hx
/-- the letters -/
def abc : List Nat := (List.range 26).map (97 + ·)
theorem abc_is : ("abcdefghijklmnopqrstuvwxyz" : Str) = sg abc := by decide +kernel
theorem e_is : ("" : Str) = sg [] := by decide +kernel
/-- the i-th name of a drawn stem -/
def nmS (pre post : List Nat) (st i : Nat) : Str := sg (pre ++ [97 + (st + 3 * i) % 26] ++ post)
structure NmOk (pre post : List Nat) : Prop where
  len : pre.length + post.length ≤ 3
  pre : ∀ c, c ∈ pre → c ∈ abc
  post : ∀ c, c ∈ post → c ∈ abc
theorem abc_at (j : Nat) : 97 + j % 26 ∈ abc := List.mem_map.mpr ⟨j % 26, List.mem_range.mpr (Nat.mod_lt _ (by decide)), rfl⟩
theorem nmS_inj {pre post : List Nat} {st i j : Nat} (hi : i < 26) (hj : j < 26) (h : nmS pre post st i = nmS pre post st j) : i = j := by
  have h1 := sg_inj h
  rw [List.append_assoc, List.append_assoc] at h1
  have h2 := List.append_cancel_left h1
  have h3 : 97 + (st + 3 * i) % 26 = 97 + (st + 3 * j) % 26 := (List.cons.inj h2).1
  omega
end DL
namespace DL
open PySem PySem.Spec PyProof.Rows L2
theorem ev_addSg {a b : List Nat} {M : Mem} {E : EX} {Q : D → Mem → Prop} (c : a.length + b.length ≤ 16777216) (h : Q (.str (sg (a ++ b))) M) : Ev (fAdd (.str (sg a)) (.str (sg b)) M) Q E := ev_addS (by rw [sg_len, sg_len]; exact c) (by rw [sg_app]; exact h)
theorem abc_get {j : Nat} (h : j < 26) : (sg abc).cps.toList[j]? = some (97 + j) := by
  rw [sg_cps]
  unfold abc
  rw [List.getElem?_map, List.getElem?_range h]
  rfl
end DL

end
section
set_option maxHeartbeats 4000000
local macro_rules | `(tactic| walk_at "EV") => `(tactic| (first | (with_reducible first | refine DL.es_seq ?_ | refine DL.es_asg ?_ | refine DL.es_if ?_ | refine DL.es_ret ?_ | refine DL.es_drop ?_ | refine DL.es_next ?_ | refine DL.es_retN ?_ | refine DL.es_for ?_ | refine DL.es_break ?_ | refine DL.es_cont ?_ | refine DL.es_forNil ?_ | refine DL.ev_c ?_ | refine DL.ev_op ?_ | refine DL.ev_cons ?_ | refine DL.ev_nil ?_ | refine DL.ev_star ?_ | refine DL.ev_tup ?_ | refine DL.ev_lst ?_ | refine DL.ev_own ?_ | refine DL.ev_test ?_ | refine DL.ev_and ?_ | refine DL.ev_or ?_ | refine DL.ev_not ?_ | refine DL.ev_b ?_ | refine DL.ev_yes ?_ | refine DL.ev_ifE ?_ | refine DL.ev_chain ?_ | refine DL.ev_noPart ?_ | refine DL.ev_part ?_ | refine DL.ev_sl ?_ | refine DL.ev_m1 ?_ | refine DL.ev_cb ?_ | refine DL.ev_f1 ?_ | refine DL.ev_call ?_ | refine DL.ev_callK ?_ | refine DL.ev_lc ?_ | refine DL.ev_any ?_ | refine DL.ev_items_lst ?_ | refine DL.ev_items_tup ?_ | refine DL.ev_items_str ?_ | refine DL.ev_rng1 ?_ | refine DL.ev_rng2 ?_ | refine DL.ev_zip ?_ | refine DL.ev_fld ?_ | refine DL.ev_prop ?_ | refine DL.ev_meth ?_ | refine DL.ev_make ?_ | refine DL.ev_makeK ?_ | refine DL.ev_makeKR ?_ | refine DL.ev_fmt ?_ | refine DL.ev_joined ?_ | refine DL.ev_jsCons ?_ | refine DL.ev_jsNil ?_ | refine DL.ev_cvI ?_ | refine DL.ev_append ?_ | refine DL.ev_insert ?_ | refine DL.es_fldSet ?_ | refine DL.es_setIx ?_ | refine DL.es_par ?_ | refine DL.ev_listA ?_ | refine DL.ev_listT ?_ | refine DL.ev_get ?_ | refine DL.es_putD ?_ | refine DL.ev_addI ?_ | refine DL.ev_subI ?_ | refine DL.ev_lt ?_ | refine DL.ev_le ?_ | refine DL.ev_gt ?_ | refine DL.ev_ge ?_ | refine DL.ev_eqI ?_ | refine DL.ev_eqS ?_ | refine DL.ev_eqB ?_ | refine DL.ev_neI ?_ | refine DL.ev_neS ?_ | refine DL.ev_int1I ?_ | refine DL.ev_int1B ?_ | refine DL.ev_str1S ?_ | refine DL.ev_tuple1L ?_ | refine DL.ev_tuple1T ?_ | refine DL.ev_max2 ?_ | refine DL.ev_min2 ?_ | refine DL.ev_slL ?_ | refine DL.ev_slT ?_ | refine DL.ev_lenL ?_ | refine DL.ev_lenT ?_ | refine DL.br_t ?_ | refine DL.br_f ?_ | refine DL.br_n ?_ | refine DL.br_and ?_ | refine DL.br_or ?_) | ((with_reducible apply DL.ev_var); (focus (exact rfl))) | ((with_reducible apply DL.es_fz); (focus (exact rfl)); (focus (first | assumption | exact DL.get_push | exact rfl))) | ((with_reducible apply DL.ev_mod); (focus (first | omega | (simp; omega) | (simp; done) | decide))) | ((with_reducible apply DL.ev_fdiv); (focus (first | omega | (simp; omega) | (simp; done) | decide)); (focus (first | omega | (simp; omega) | (simp; done) | decide))) | ((with_reducible apply DL.ev_mulI); (focus (first | omega | (simp; omega) | (simp; done) | decide))) | ((with_reducible apply DL.ev_mul4I); (focus (first | omega | (simp; omega) | (simp; done) | decide))) | ((with_reducible apply DL.ev_ixL); (focus (exact rfl))) | ((with_reducible apply DL.ev_ixT); (focus (exact rfl))) | ((with_reducible apply DL.ev_ixO); (focus (first | assumption | exact DL.get_push | exact rfl)); (focus (exact rfl))) | ((with_reducible apply DL.ev_isi); (focus (exact rfl))) | ((with_reducible apply DL.ev_isN); (focus (exact rfl))) | ((with_reducible apply DL.ev_lenM); (focus (first | assumption | exact DL.get_push | exact rfl))) | ((with_reducible apply DL.ev_listO); (focus (first | assumption | exact DL.get_push | exact rfl))) | ((with_reducible apply DL.ev_bodyS)) | ((with_reducible apply DL.ev_body)) | with_reducible apply Exists.intro | ((with_reducible apply And.intro); (focus (first | exact rfl | omega | (simp; omega) | (simp; done) | decide | assumption | (constructor <;> omega) | exact Or.inl rfl | exact Or.inr rfl | exact DL.get_push))) | ((with_reducible apply DL.br_dt); (focus (first | assumption | omega | decide +kernel))) | ((with_reducible apply DL.br_df); (focus (first | assumption | omega | decide +kernel))) | ((with_reducible apply DL.br_eqT); (focus (first | exact rfl | assumption))) | ((with_reducible apply DL.br_eqF); (focus (first | exact rfl | assumption)))))
namespace G
open PySem PySem.Spec PyProof.Rows L2 DL
theorem of_lst {M : Mem} {ds : List D} {Q : D → Mem → Prop} {E : EX} (h : IsBag M) (h0 : 0 < ds.length) (h1 : ds.length ≤ 16777216) (q : ∀ d M', d ∈ ds → Bg M M' → Q d M') : Ev (g_law_of [.obj 2, .lst ds] M) Q E := by
  unfold g_law_of m_law_of
  refine ev_body ?_
  (repeat (walk_at "EV"))
  refine take_c h (by omega) (by omega) fun k M' k0 k1 hb => ?_
  obtain ⟨k, rfl⟩ := nat_of k0
  have hk : k < ds.length := by omega
  exact ev_ixL (atI_at (List.getElem?_eq_getElem hk)) (q _ M' (List.getElem_mem hk) hb)
theorem of_str {M : Mem} {z : Str} {Q : D → Mem → Prop} {E : EX} (h : IsBag M) (h0 : 0 < z.length) (h1 : z.length ≤ 16777216) (q : ∀ c M', c ∈ z.cps.toList → Bg M M' → Q (.str (sg [c])) M') : Ev (g_law_of [.obj 2, .str z] M) Q E := by
  unfold g_law_of m_law_of
  refine ev_body ?_
  (repeat (first | ((with_reducible apply ev_lenS); (focus exact h1)) | walk_at "EV"))
  refine take_c h (by omega) (by omega) fun k M' k0 k1 hb => ?_
  obtain ⟨k, rfl⟩ := nat_of k0
  have hk : k < z.cps.toList.length := by
    have : z.cps.toList.length = z.length := by simp [Str.length]
    omega
  exact ev_ixS h1 (atI_at (List.getElem?_eq_getElem hk)) (q _ M' (List.getElem_mem hk) hb)
end G

end
section
set_option maxHeartbeats 4000000
local macro_rules | `(tactic| walk_at "EV") => `(tactic| (first | (with_reducible first | refine DL.es_seq ?_ | refine DL.es_asg ?_ | refine DL.es_if ?_ | refine DL.es_ret ?_ | refine DL.es_drop ?_ | refine DL.es_next ?_ | refine DL.es_retN ?_ | refine DL.es_for ?_ | refine DL.es_break ?_ | refine DL.es_cont ?_ | refine DL.es_forNil ?_ | refine DL.ev_c ?_ | refine DL.ev_op ?_ | refine DL.ev_cons ?_ | refine DL.ev_nil ?_ | refine DL.ev_star ?_ | refine DL.ev_tup ?_ | refine DL.ev_lst ?_ | refine DL.ev_own ?_ | refine DL.ev_test ?_ | refine DL.ev_and ?_ | refine DL.ev_or ?_ | refine DL.ev_not ?_ | refine DL.ev_b ?_ | refine DL.ev_yes ?_ | refine DL.ev_ifE ?_ | refine DL.ev_chain ?_ | refine DL.ev_noPart ?_ | refine DL.ev_part ?_ | refine DL.ev_sl ?_ | refine DL.ev_m1 ?_ | refine DL.ev_cb ?_ | refine DL.ev_f1 ?_ | refine DL.ev_call ?_ | refine DL.ev_callK ?_ | refine DL.ev_lc ?_ | refine DL.ev_any ?_ | refine DL.ev_items_lst ?_ | refine DL.ev_items_tup ?_ | refine DL.ev_items_str ?_ | refine DL.ev_rng1 ?_ | refine DL.ev_rng2 ?_ | refine DL.ev_zip ?_ | refine DL.ev_fld ?_ | refine DL.ev_prop ?_ | refine DL.ev_meth ?_ | refine DL.ev_make ?_ | refine DL.ev_makeK ?_ | refine DL.ev_makeKR ?_ | refine DL.ev_fmt ?_ | refine DL.ev_joined ?_ | refine DL.ev_jsCons ?_ | refine DL.ev_jsNil ?_ | refine DL.ev_cvI ?_ | refine DL.ev_append ?_ | refine DL.ev_insert ?_ | refine DL.es_fldSet ?_ | refine DL.es_setIx ?_ | refine DL.es_par ?_ | refine DL.ev_listA ?_ | refine DL.ev_listT ?_ | refine DL.ev_get ?_ | refine DL.es_putD ?_ | refine DL.ev_addI ?_ | refine DL.ev_subI ?_ | refine DL.ev_lt ?_ | refine DL.ev_le ?_ | refine DL.ev_gt ?_ | refine DL.ev_ge ?_ | refine DL.ev_eqI ?_ | refine DL.ev_eqS ?_ | refine DL.ev_eqB ?_ | refine DL.ev_neI ?_ | refine DL.ev_neS ?_ | refine DL.ev_int1I ?_ | refine DL.ev_int1B ?_ | refine DL.ev_str1S ?_ | refine DL.ev_tuple1L ?_ | refine DL.ev_tuple1T ?_ | refine DL.ev_max2 ?_ | refine DL.ev_min2 ?_ | refine DL.ev_slL ?_ | refine DL.ev_slT ?_ | refine DL.ev_lenL ?_ | refine DL.ev_lenT ?_ | refine DL.br_t ?_ | refine DL.br_f ?_ | refine DL.br_n ?_ | refine DL.br_and ?_ | refine DL.br_or ?_) | ((with_reducible apply DL.ev_var); (focus (exact rfl))) | ((with_reducible apply DL.es_fz); (focus (exact rfl)); (focus (first | assumption | exact DL.get_push | exact rfl))) | ((with_reducible apply DL.ev_mod); (focus (first | omega | (simp; omega) | (simp; done) | decide))) | ((with_reducible apply DL.ev_fdiv); (focus (first | omega | (simp; omega) | (simp; done) | decide)); (focus (first | omega | (simp; omega) | (simp; done) | decide))) | ((with_reducible apply DL.ev_mulI); (focus (first | omega | (simp; omega) | (simp; done) | decide))) | ((with_reducible apply DL.ev_mul4I); (focus (first | omega | (simp; omega) | (simp; done) | decide))) | ((with_reducible apply DL.ev_ixL); (focus (exact rfl))) | ((with_reducible apply DL.ev_ixT); (focus (exact rfl))) | ((with_reducible apply DL.ev_ixO); (focus (first | assumption | exact DL.get_push | exact rfl)); (focus (exact rfl))) | ((with_reducible apply DL.ev_isi); (focus (exact rfl))) | ((with_reducible apply DL.ev_isN); (focus (exact rfl))) | ((with_reducible apply DL.ev_lenM); (focus (first | assumption | exact DL.get_push | exact rfl))) | ((with_reducible apply DL.ev_listO); (focus (first | assumption | exact DL.get_push | exact rfl))) | ((with_reducible apply DL.ev_bodyS)) | ((with_reducible apply DL.ev_body)) | with_reducible apply Exists.intro | ((with_reducible apply And.intro); (focus (first | exact rfl | exact ⟨rfl, rfl, rfl⟩ | omega | (simp; omega) | (simp; done) | decide | assumption | (constructor <;> omega) | exact Or.inl rfl | exact Or.inr rfl | exact DL.get_push))) | ((with_reducible apply DL.br_dt); (focus (first | assumption | omega | decide +kernel))) | ((with_reducible apply DL.br_df); (focus (first | assumption | omega | decide +kernel))) | ((with_reducible apply DL.br_eqT); (focus (first | exact rfl | assumption))) | ((with_reducible apply DL.br_eqF); (focus (first | exact rfl | assumption)))))
namespace G
open PySem PySem.Spec PyProof.Rows L2 DL
theorem names_c {M : Mem} {n : Nat} {Q : D → Mem → Prop} {E : EX} (hn : n ≤ 26) (h : IsBag M) (q : ∀ pre post st M', NmOk pre post → Bg M M' → Q (.lst ((List.range n).map fun i => .str (nmS pre post st i))) M') : Ev (g_law_names [.obj 2, .int n] M) Q E := by
  unfold g_law_names m_law_names
  refine ev_body ?_
  rw [abc_is, e_is]
  (repeat (walk_at "EV"))
  refine take_c h (by omega) (by omega) fun k M1 k0 k1 hb => ?_
  (repeat (walk_at "EV"))
  refine ⟨by rw [ints_len]; omega, ?_⟩
  refine ev_lcInv (fun M' => Bg M M') (fun _ y => ∃ c, y = .str (sg [c]) ∧ c ∈ abc) hb (fun d hd M2 h2 => ⟨_, rfl, ?_⟩) fun ys M2 ly py h2 => ?_
  · (repeat (walk_at "EV"))
    exact of_str h2.bag (by decide) (by decide) fun c M3 hc h3 => ⟨⟨c, rfl, hc⟩, h2.trans h3⟩
  · rw [ints_len] at ly
    obtain ⟨cs, rfl, hc⟩ := all_signs (ys := ys) (P := fun c => c ∈ abc) fun y hy => by
      obtain ⟨i, hi, e⟩ := List.mem_iff_getElem.mp hy
      have hi' : i < (intsD 0 k.toNat).length := by rw [ints_len, ← ly]; exact hi
      exact py i _ y (List.getElem?_eq_getElem hi') (List.getElem?_eq_some_iff.mpr ⟨hi, e⟩)
    rw [List.length_map] at ly
    have l3 : cs.length ≤ 3 := by omega
    refine ev_okE (fJoin_sg (by omega)) ?_
    (repeat (first | ((with_reducible apply ev_lenS); (focus (rw [sg_len]; omega))) | walk_at "EV"))
    rw [sg_len]
    refine take_c h2.bag (by omega) (by omega) fun sp M3 s0 s1 h3 => ?_
    (repeat (walk_at "EV"))
    refine take_c h3.bag (by omega) (by omega) fun st M4 t0 t1 h4 => ?_
    obtain ⟨sp, rfl⟩ := nat_of s0
    obtain ⟨st, rfl⟩ := nat_of t0
    have hsp : sp ≤ cs.length := by omega
    (repeat (walk_at "EV"))
    refine ⟨by rw [ints_len]; omega, ?_⟩
    have fin := q (cs.take sp) (cs.drop sp) st M4 ⟨by rw [List.length_take, List.length_drop]; omega, fun c h => hc c (List.mem_of_mem_take h), fun c h => hc c (List.mem_of_mem_drop h)⟩ (h2.trans (h3.trans h4))
    refine ev_lcMap (fun d => match d with | .int i => .str (nmS (cs.take sp) (cs.drop sp) st i.toNat) | _ => .non) (fun d hd => ?_) ?_
    · obtain ⟨i, hi, rfl⟩ := List.mem_map.mp hd
      have hi := List.mem_range.mp hi
      have e3 : (0 : Int) + (i : Int) = (i : Int) := by omega
      rw [e3]
      refine ⟨_, rfl, ?_⟩
      have lz : (sg cs).length ≤ 16777216 := by rw [sg_len]; omega
      (repeat (first | ((with_reducible apply ev_slS); (focus exact lz)) | walk_at "EV"))
      have ei : (st : Int) + 3 * (i : Int) = ((st + 3 * i : Nat) : Int) := by omega
      have em : ((st : Int) + 3 * (i : Int)) % 26 = (((st + 3 * i) % 26 : Nat) : Int) := by omega
      rw [em]
      refine ev_ixS (by rw [sg_len]; decide) (atI_at (a := 97 + (st + 3 * i) % 26) (abc_get (Nat.mod_lt _ (by decide)))) ?_
      rw [cut_lo cs sp hsp]
      refine ev_addSg (by rw [List.length_take]; simp; omega) ?_
      (repeat (first | ((with_reducible apply ev_slS); (focus exact lz)) | walk_at "EV"))
      rw [cut_hi cs sp hsp]
      refine ev_addSg (by simp; omega) ?_
      exact ⟨rfl, rfl⟩
    · have e : (intsD 0 ((n : Int).toNat)).map (fun d => match d with | .int i => D.str (nmS (cs.take sp) (cs.drop sp) st i.toNat) | _ => .non) = (List.range n).map fun i => .str (nmS (cs.take sp) (cs.drop sp) st i) := by
        unfold intsD
        rw [List.map_map, Int.toNat_natCast]
        apply List.map_congr_left
        intro i _
        show D.str (nmS _ _ st ((0 : Int) + (i : Int)).toNat) = _
        rw [Int.zero_add, Int.toNat_natCast]
      rw [e]
      exact fin
end G

end
section
set_option maxHeartbeats 4000000
local macro_rules | `(tactic| walk_at "EV") => `(tactic| (first | (with_reducible first | refine DL.es_seq ?_ | refine DL.es_asg ?_ | refine DL.es_if ?_ | refine DL.es_ret ?_ | refine DL.es_drop ?_ | refine DL.es_next ?_ | refine DL.es_retN ?_ | refine DL.es_for ?_ | refine DL.es_break ?_ | refine DL.es_cont ?_ | refine DL.es_forNil ?_ | refine DL.ev_c ?_ | refine DL.ev_op ?_ | refine DL.ev_cons ?_ | refine DL.ev_nil ?_ | refine DL.ev_star ?_ | refine DL.ev_tup ?_ | refine DL.ev_lst ?_ | refine DL.ev_own ?_ | refine DL.ev_test ?_ | refine DL.ev_and ?_ | refine DL.ev_or ?_ | refine DL.ev_not ?_ | refine DL.ev_b ?_ | refine DL.ev_yes ?_ | refine DL.ev_ifE ?_ | refine DL.ev_chain ?_ | refine DL.ev_noPart ?_ | refine DL.ev_part ?_ | refine DL.ev_sl ?_ | refine DL.ev_m1 ?_ | refine DL.ev_cb ?_ | refine DL.ev_f1 ?_ | refine DL.ev_call ?_ | refine DL.ev_callK ?_ | refine DL.ev_lc ?_ | refine DL.ev_any ?_ | refine DL.ev_items_lst ?_ | refine DL.ev_items_tup ?_ | refine DL.ev_items_str ?_ | refine DL.ev_rng1 ?_ | refine DL.ev_rng2 ?_ | refine DL.ev_zip ?_ | refine DL.ev_fld ?_ | refine DL.ev_prop ?_ | refine DL.ev_meth ?_ | refine DL.ev_make ?_ | refine DL.ev_makeK ?_ | refine DL.ev_makeKR ?_ | refine DL.ev_fmt ?_ | refine DL.ev_joined ?_ | refine DL.ev_jsCons ?_ | refine DL.ev_jsNil ?_ | refine DL.ev_cvI ?_ | refine DL.ev_append ?_ | refine DL.ev_insert ?_ | refine DL.es_fldSet ?_ | refine DL.es_setIx ?_ | refine DL.es_par ?_ | refine DL.ev_listA ?_ | refine DL.ev_listT ?_ | refine DL.ev_get ?_ | refine DL.es_putD ?_ | refine DL.ev_addI ?_ | refine DL.ev_subI ?_ | refine DL.ev_lt ?_ | refine DL.ev_le ?_ | refine DL.ev_gt ?_ | refine DL.ev_ge ?_ | refine DL.ev_eqI ?_ | refine DL.ev_eqS ?_ | refine DL.ev_eqB ?_ | refine DL.ev_neI ?_ | refine DL.ev_neS ?_ | refine DL.ev_int1I ?_ | refine DL.ev_int1B ?_ | refine DL.ev_str1S ?_ | refine DL.ev_tuple1L ?_ | refine DL.ev_tuple1T ?_ | refine DL.ev_max2 ?_ | refine DL.ev_min2 ?_ | refine DL.ev_slL ?_ | refine DL.ev_slT ?_ | refine DL.ev_lenL ?_ | refine DL.ev_lenT ?_ | refine DL.br_t ?_ | refine DL.br_f ?_ | refine DL.br_n ?_ | refine DL.br_and ?_ | refine DL.br_or ?_) | ((with_reducible apply DL.ev_var); (focus (exact rfl))) | ((with_reducible apply DL.es_fz); (focus (exact rfl)); (focus (first | assumption | exact DL.get_push | exact rfl))) | ((with_reducible apply DL.ev_mod); (focus (first | omega | (simp; omega) | (simp; done) | decide))) | ((with_reducible apply DL.ev_fdiv); (focus (first | omega | (simp; omega) | (simp; done) | decide)); (focus (first | omega | (simp; omega) | (simp; done) | decide))) | ((with_reducible apply DL.ev_mulI); (focus (first | omega | (simp; omega) | (simp; done) | decide))) | ((with_reducible apply DL.ev_mul4I); (focus (first | omega | (simp; omega) | (simp; done) | decide))) | ((with_reducible apply DL.ev_ixL); (focus (exact rfl))) | ((with_reducible apply DL.ev_ixT); (focus (exact rfl))) | ((with_reducible apply DL.ev_ixO); (focus (first | assumption | exact DL.get_push | exact rfl)); (focus (exact rfl))) | ((with_reducible apply DL.ev_isi); (focus (exact rfl))) | ((with_reducible apply DL.ev_isN); (focus (exact rfl))) | ((with_reducible apply DL.ev_lenM); (focus (first | assumption | exact DL.get_push | exact rfl))) | ((with_reducible apply DL.ev_listO); (focus (first | assumption | exact DL.get_push | exact rfl))) | ((with_reducible apply DL.ev_bodyS)) | ((with_reducible apply DL.ev_body)) | with_reducible apply Exists.intro | ((with_reducible apply And.intro); (focus (first | exact rfl | omega | (simp; omega) | (simp; done) | decide | assumption | (constructor <;> omega) | exact Or.inl rfl | exact Or.inr rfl | exact DL.get_push))) | ((with_reducible apply DL.br_dt); (focus (first | assumption | omega | decide +kernel))) | ((with_reducible apply DL.br_df); (focus (first | assumption | omega | decide +kernel))) | ((with_reducible apply DL.br_eqT); (focus (first | exact rfl | assumption))) | ((with_reducible apply DL.br_eqF); (focus (first | exact rfl | assumption)))))
namespace DL
open PySem PySem.Spec PyProof.Rows L2
/-- plain values no deeper than n -/
inductive PlainD : Nat → D → Prop where
  | non {n} : PlainD (n + 1) .non
  | bl {n b} : PlainD (n + 1) (.bl b)
  | int {n i} : PlainD (n + 1) (.int i)
  | str {n z} : PlainD (n + 1) (.str z)
  | lst {n ds} : ds.length ≤ 16777216 → (∀ d, d ∈ ds → PlainD n d) → PlainD (n + 1) (.lst ds)
  | tup {n ds} : ds.length ≤ 16777216 → (∀ d, d ∈ ds → PlainD n d) → PlainD (n + 1) (.tup ds)
theorem ev_allT {α : Type} {l : List α} {M : Mem} {E : EX} {Q : D → Mem → Prop} (h : Q (.bl true) M) : Ev (fAll (.lst (l.map fun _ => D.bl true)) M) Q E := by
  have e : (l.map fun _ => D.bl true) = (l.map fun _ => true).map D.bl := by rw [List.map_map]; rfl
  rw [e]
  refine ev_all ?_
  have : ((l.map fun _ => true).all id) = true := by simp
  rw [this]
  exact h
theorem zip_self {α : Type} {ds : List α} {p : α × α} (h : p ∈ ds.zip ds) : p.1 = p.2 ∧ p.1 ∈ ds := by
  induction ds with
  | nil => simp at h
  | cons d r ih =>
    rw [List.zip_cons_cons] at h
    rcases List.mem_cons.mp h with e | h
    · subst e
      exact ⟨rfl, List.mem_cons_self ..⟩
    · obtain ⟨h1, h2⟩ := ih h
      exact ⟨h1, List.mem_cons_of_mem _ h2⟩
/-- a name -/
def Nm (z : Str) : Prop := ∃ cs, z = sg cs ∧ 1 ≤ cs.length ∧ cs.length ≤ 6 ∧ ∀ c, c ∈ cs → c ∈ abc
theorem nmS_nm {pre post : List Nat} (h : NmOk pre post) (st i : Nat) : Nm (nmS pre post st i) := by
  refine ⟨_, rfl, by simp; omega, by have := h.len; simp; omega, fun c hc => ?_⟩
  rw [List.mem_append, List.mem_append, List.mem_singleton] at hc
  rcases hc with (hc | hc) | hc
  · exact h.pre c hc
  · rw [hc]; exact abc_at _
  · exact h.post c hc
end DL
namespace G
open PySem PySem.Spec PyProof.Rows L2 DL
theorem same_c : ∀ (n : Nat) (d : D) {M : Mem} {Q : D → Mem → Prop} {E : EX}, PlainD n d → Q (.bl true) M → Ev (g_law_same n [d, d] M) Q E
  | 0, d, M, Q, E, h, _ => nomatch h
  | n + 1, d, M, Q, E, h, q => by
    have q' : ∀ {α : Type} [DecidableEq α] (a : α), Q (.bl (decide (a = a))) M := fun a => by simpa using q
    unfold g_law_same m_law_same
    refine ev_body ?_
    cases h with
    | non => (repeat (walk_at "EV")); exact q
    | bl => (repeat (walk_at "EV")); exact q' _
    | int => (repeat (walk_at "EV")); exact q' _
    | str => (repeat (walk_at "EV")); exact q' _
    | @lst _ ds hl h =>
      (repeat (walk_at "EV"))
      refine ev_lcMap (fun _ => .bl true) (fun d hd => ?_) ?_
      · obtain ⟨p, hp, rfl⟩ := List.mem_map.mp hd
        obtain ⟨e1, e2⟩ := zip_self hp
        refine ⟨_, rfl, ?_⟩
        rw [← e1]
        (repeat (walk_at "EV"))
        exact same_c n p.1 (h _ e2) ⟨rfl, rfl⟩
      · (repeat (walk_at "EV"))
        rw [List.map_map]
        refine ev_allT ?_
        (repeat (walk_at "EV"))
        exact q
    | @tup _ ds hl h =>
      (repeat (walk_at "EV"))
      refine ev_lcMap (fun _ => .bl true) (fun d hd => ?_) ?_
      · obtain ⟨p, hp, rfl⟩ := List.mem_map.mp hd
        obtain ⟨e1, e2⟩ := zip_self hp
        refine ⟨_, rfl, ?_⟩
        rw [← e1]
        (repeat (walk_at "EV"))
        exact same_c n p.1 (h _ e2) ⟨rfl, rfl⟩
      · (repeat (walk_at "EV"))
        rw [List.map_map]
        refine ev_allT ?_
        (repeat (walk_at "EV"))
        exact q
end G

end
section
set_option maxHeartbeats 4000000
local macro_rules | `(tactic| walk_at "EV") => `(tactic| (first | (with_reducible first | refine DL.es_seq ?_ | refine DL.es_asg ?_ | refine DL.es_if ?_ | refine DL.es_ret ?_ | refine DL.es_drop ?_ | refine DL.es_next ?_ | refine DL.es_retN ?_ | refine DL.es_for ?_ | refine DL.es_break ?_ | refine DL.es_cont ?_ | refine DL.es_forNil ?_ | refine DL.ev_c ?_ | refine DL.ev_op ?_ | refine DL.ev_cons ?_ | refine DL.ev_nil ?_ | refine DL.ev_star ?_ | refine DL.ev_tup ?_ | refine DL.ev_lst ?_ | refine DL.ev_own ?_ | refine DL.ev_test ?_ | refine DL.ev_and ?_ | refine DL.ev_or ?_ | refine DL.ev_not ?_ | refine DL.ev_b ?_ | refine DL.ev_yes ?_ | refine DL.ev_ifE ?_ | refine DL.ev_chain ?_ | refine DL.ev_noPart ?_ | refine DL.ev_part ?_ | refine DL.ev_sl ?_ | refine DL.ev_m1 ?_ | refine DL.ev_cb ?_ | refine DL.ev_f1 ?_ | refine DL.ev_call ?_ | refine DL.ev_callK ?_ | refine DL.ev_lc ?_ | refine DL.ev_any ?_ | refine DL.ev_items_lst ?_ | refine DL.ev_items_tup ?_ | refine DL.ev_items_str ?_ | refine DL.ev_rng1 ?_ | refine DL.ev_rng2 ?_ | refine DL.ev_zip ?_ | refine DL.ev_fld ?_ | refine DL.ev_prop ?_ | refine DL.ev_meth ?_ | refine DL.ev_make ?_ | refine DL.ev_makeK ?_ | refine DL.ev_makeKR ?_ | refine DL.ev_fmt ?_ | refine DL.ev_joined ?_ | refine DL.ev_jsCons ?_ | refine DL.ev_jsNil ?_ | refine DL.ev_cvI ?_ | refine DL.ev_append ?_ | refine DL.ev_insert ?_ | refine DL.es_fldSet ?_ | refine DL.es_setIx ?_ | refine DL.es_par ?_ | refine DL.ev_listA ?_ | refine DL.ev_listT ?_ | refine DL.ev_get ?_ | refine DL.es_putD ?_ | refine DL.ev_addI ?_ | refine DL.ev_subI ?_ | refine DL.ev_lt ?_ | refine DL.ev_le ?_ | refine DL.ev_gt ?_ | refine DL.ev_ge ?_ | refine DL.ev_eqI ?_ | refine DL.ev_eqS ?_ | refine DL.ev_eqB ?_ | refine DL.ev_neI ?_ | refine DL.ev_neS ?_ | refine DL.ev_int1I ?_ | refine DL.ev_int1B ?_ | refine DL.ev_str1S ?_ | refine DL.ev_tuple1L ?_ | refine DL.ev_tuple1T ?_ | refine DL.ev_max2 ?_ | refine DL.ev_min2 ?_ | refine DL.ev_slL ?_ | refine DL.ev_slT ?_ | refine DL.ev_lenL ?_ | refine DL.ev_lenT ?_ | refine DL.br_t ?_ | refine DL.br_f ?_ | refine DL.br_n ?_ | refine DL.br_and ?_ | refine DL.br_or ?_) | ((with_reducible apply DL.ev_var); (focus (exact rfl))) | ((with_reducible apply DL.es_fz); (focus (exact rfl)); (focus (first | assumption | exact DL.get_push | exact rfl))) | ((with_reducible apply DL.ev_mod); (focus (first | omega | (simp; omega) | (simp; done) | decide))) | ((with_reducible apply DL.ev_fdiv); (focus (first | omega | (simp; omega) | (simp; done) | decide)); (focus (first | omega | (simp; omega) | (simp; done) | decide))) | ((with_reducible apply DL.ev_mulI); (focus (first | omega | (simp; omega) | (simp; done) | decide))) | ((with_reducible apply DL.ev_mul4I); (focus (first | omega | (simp; omega) | (simp; done) | decide))) | ((with_reducible apply DL.ev_ixL); (focus (exact rfl))) | ((with_reducible apply DL.ev_ixT); (focus (exact rfl))) | ((with_reducible apply DL.ev_ixO); (focus (first | assumption | exact DL.get_push | exact rfl)); (focus (exact rfl))) | ((with_reducible apply DL.ev_isi); (focus (exact rfl))) | ((with_reducible apply DL.ev_isN); (focus (exact rfl))) | ((with_reducible apply DL.ev_lenM); (focus (first | assumption | exact DL.get_push | exact rfl))) | ((with_reducible apply DL.ev_listO); (focus (first | assumption | exact DL.get_push | exact rfl))) | ((with_reducible apply DL.ev_bodyS)) | ((with_reducible apply DL.ev_body)) | with_reducible apply Exists.intro | ((with_reducible apply And.intro); (focus (first | exact rfl | exact ⟨rfl, rfl, rfl⟩ | omega | (simp; omega) | (simp; done) | decide | assumption | (constructor <;> omega) | exact Or.inl rfl | exact Or.inr rfl | exact DL.get_push))) | ((with_reducible apply DL.br_dt); (focus (first | assumption | omega | decide +kernel))) | ((with_reducible apply DL.br_df); (focus (first | assumption | omega | decide +kernel))) | ((with_reducible apply DL.br_eqT); (focus (first | exact rfl | assumption))) | ((with_reducible apply DL.br_eqF); (focus (first | exact rfl | assumption)))))
namespace G
open PySem PySem.Spec PyProof.Rows L2 DL
theorem is_name_c {z : Str} {M : Mem} {Q : D → Mem → Prop} {E : EX} (h : Nm z) (q : Q (.bl true) M) : Ev (g_is_name [.str z] M) Q E := by
  obtain ⟨cs, rfl, l1, l2, hc⟩ := h
  unfold g_is_name m_is_name
  refine ev_body ?_
  have lz : (sg cs).length ≤ 16777216 := by rw [sg_len]; omega
  rw [abc_is]
  (repeat (first | ((with_reducible apply ev_lenS); (focus exact lz)) | (rw [sg_len]) | walk_at "EV"))
  refine ⟨by rw [signsD, List.length_map, sg_cps]; omega, ?_⟩
  refine ev_lcMap (fun _ => .bl true) (fun d hd => ?_) ?_
  · obtain ⟨c, hcm, rfl⟩ := List.mem_map.mp hd
    refine ⟨_, rfl, ?_⟩
    refine ev_op (ev_var rfl (ev_c (ev_els_l ?_)))
    show Ev (fIn false (.str (sg [c])) (.str (sg abc)) M) _ _
    refine ev_okE (a := .bl (decide (c ∈ abc))) (M' := M) rfl ?_
    rw [decide_eq_true (hc c hcm)]
    exact ⟨rfl, rfl⟩
  · unfold signsD
    rw [List.map_map]
    (repeat (walk_at "EV"))
    refine ev_allT ?_
    exact q
end G

end
section
set_option maxHeartbeats 4000000
local macro_rules | `(tactic| walk_at "EV") => `(tactic| (first | (with_reducible first | refine DL.es_seq ?_ | refine DL.es_asg ?_ | refine DL.es_if ?_ | refine DL.es_ret ?_ | refine DL.es_drop ?_ | refine DL.es_next ?_ | refine DL.es_retN ?_ | refine DL.es_for ?_ | refine DL.es_break ?_ | refine DL.es_cont ?_ | refine DL.es_forNil ?_ | refine DL.ev_c ?_ | refine DL.ev_op ?_ | refine DL.ev_cons ?_ | refine DL.ev_nil ?_ | refine DL.ev_star ?_ | refine DL.ev_tup ?_ | refine DL.ev_lst ?_ | refine DL.ev_own ?_ | refine DL.ev_test ?_ | refine DL.ev_and ?_ | refine DL.ev_or ?_ | refine DL.ev_not ?_ | refine DL.ev_b ?_ | refine DL.ev_yes ?_ | refine DL.ev_ifE ?_ | refine DL.ev_chain ?_ | refine DL.ev_noPart ?_ | refine DL.ev_part ?_ | refine DL.ev_sl ?_ | refine DL.ev_m1 ?_ | refine DL.ev_cb ?_ | refine DL.ev_f1 ?_ | refine DL.ev_call ?_ | refine DL.ev_callK ?_ | refine DL.ev_lc ?_ | refine DL.ev_any ?_ | refine DL.ev_items_lst ?_ | refine DL.ev_items_tup ?_ | refine DL.ev_items_str ?_ | refine DL.ev_rng1 ?_ | refine DL.ev_rng2 ?_ | refine DL.ev_zip ?_ | refine DL.ev_fld ?_ | refine DL.ev_prop ?_ | refine DL.ev_meth ?_ | refine DL.ev_make ?_ | refine DL.ev_makeK ?_ | refine DL.ev_makeKR ?_ | refine DL.ev_fmt ?_ | refine DL.ev_joined ?_ | refine DL.ev_jsCons ?_ | refine DL.ev_jsNil ?_ | refine DL.ev_cvI ?_ | refine DL.ev_append ?_ | refine DL.ev_insert ?_ | refine DL.es_fldSet ?_ | refine DL.es_setIx ?_ | refine DL.es_par ?_ | refine DL.ev_listA ?_ | refine DL.ev_listT ?_ | refine DL.ev_get ?_ | refine DL.es_putD ?_ | refine DL.ev_addI ?_ | refine DL.ev_subI ?_ | refine DL.ev_lt ?_ | refine DL.ev_le ?_ | refine DL.ev_gt ?_ | refine DL.ev_ge ?_ | refine DL.ev_eqI ?_ | refine DL.ev_eqS ?_ | refine DL.ev_eqB ?_ | refine DL.ev_neI ?_ | refine DL.ev_neS ?_ | refine DL.ev_int1I ?_ | refine DL.ev_int1B ?_ | refine DL.ev_str1S ?_ | refine DL.ev_tuple1L ?_ | refine DL.ev_tuple1T ?_ | refine DL.ev_max2 ?_ | refine DL.ev_min2 ?_ | refine DL.ev_slL ?_ | refine DL.ev_slT ?_ | refine DL.ev_lenL ?_ | refine DL.ev_lenT ?_ | refine DL.br_t ?_ | refine DL.br_f ?_ | refine DL.br_n ?_ | refine DL.br_and ?_ | refine DL.br_or ?_) | ((with_reducible apply DL.ev_var); (focus (exact rfl))) | ((with_reducible apply DL.es_fz); (focus (exact rfl)); (focus (first | assumption | exact DL.get_push | exact rfl))) | ((with_reducible apply DL.ev_mod); (focus (first | omega | (simp; omega) | (simp; done) | decide))) | ((with_reducible apply DL.ev_fdiv); (focus (first | omega | (simp; omega) | (simp; done) | decide)); (focus (first | omega | (simp; omega) | (simp; done) | decide))) | ((with_reducible apply DL.ev_mulI); (focus (first | omega | (simp; omega) | (simp; done) | decide))) | ((with_reducible apply DL.ev_mul4I); (focus (first | omega | (simp; omega) | (simp; done) | decide))) | ((with_reducible apply DL.ev_ixL); (focus (exact rfl))) | ((with_reducible apply DL.ev_ixT); (focus (exact rfl))) | ((with_reducible apply DL.ev_ixO); (focus (first | assumption | exact DL.get_push | exact rfl)); (focus (exact rfl))) | ((with_reducible apply DL.ev_isi); (focus (exact rfl))) | ((with_reducible apply DL.ev_isN); (focus (exact rfl))) | ((with_reducible apply DL.ev_lenM); (focus (first | assumption | exact DL.get_push | exact rfl))) | ((with_reducible apply DL.ev_listO); (focus (first | assumption | exact DL.get_push | exact rfl))) | ((with_reducible apply DL.ev_bodyS)) | ((with_reducible apply DL.ev_body)) | with_reducible apply Exists.intro | ((with_reducible apply And.intro); (focus (first | exact rfl | exact ⟨rfl, rfl, rfl⟩ | omega | (simp; omega) | (simp; done) | decide | assumption | (constructor <;> omega) | exact Or.inl rfl | exact Or.inr rfl | exact DL.get_push))) | ((with_reducible apply DL.br_dt); (focus (first | assumption | omega | decide +kernel))) | ((with_reducible apply DL.br_df); (focus (first | assumption | omega | decide +kernel))) | ((with_reducible apply DL.br_eqT); (focus (first | exact rfl | assumption))) | ((with_reducible apply DL.br_eqF); (focus (first | exact rfl | assumption)))))
namespace G
open PySem PySem.Spec PyProof.Rows L2 DL
theorem in_t {c : Str} {ds : List D} {M : Mem} {Q : D → Mem → Prop} {E : EX} (e : fIn3 false (.str c) (.tup ds) M = .ok (.bl true) M) (h : Q (.bl true) M) : Ev (fIn3 false (.str c) (.tup ds) M) Q E := ev_okE e h
theorem field_num {v : D} {M : Mem} {Q : D → Mem → Prop} {E : EX} (h : Q (.tup [v]) M) : Ev (g_law_field "InvalidNumber" ["value", "code"] [v, .str "InvalidNumber"] M) Q E := by
  unfold g_law_field m_law_field
  refine LM.ev_bodyF ?_
  have e1 : fldD "code" ["value", "code"] [v, .str "InvalidNumber"] = some (.str "InvalidNumber") := rfl
  have e2 : fldD "value" ["value", "code"] [v, .str "InvalidNumber"] = some v := rfl
  (repeat (first | ((with_reducible apply LM.ev_cau); (focus exact rfl); (focus decide +kernel); (focus first | exact e1 | exact e2)) | ((with_reducible apply in_t); (focus exact rfl)) | walk_at "EV"))
  exact h
theorem field_name {v : D} {M : Mem} {Q : D → Mem → Prop} {E : EX} (h : Q (.tup [v]) M) : Ev (g_law_field "InvalidName" ["value", "code"] [v, .str "InvalidName"] M) Q E := by
  unfold g_law_field m_law_field
  refine LM.ev_bodyF ?_
  have e1 : fldD "code" ["value", "code"] [v, .str "InvalidName"] = some (.str "InvalidName") := rfl
  have e2 : fldD "value" ["value", "code"] [v, .str "InvalidName"] = some v := rfl
  (repeat (first | ((with_reducible apply LM.ev_cau); (focus exact rfl); (focus decide +kernel); (focus first | exact e1 | exact e2)) | ((with_reducible apply in_t); (focus exact rfl)) | walk_at "EV"))
  exact h
/-- a lambda that is refused: a name -/
theorem why_name {es : List (Addr × D)} {F : LamC} {cl : List (Str × Addr)} {ds : List D} {gf : GF} {v : D} {M : Mem} {Q : D → Mem → Prop} {E : EX} {o : MO} (hb : IsBag M) (e1 : LM.capsD F.caps cl es = some ds) (e2 : LM.tabF lamTab F = some gf)
    (h : ∀ (Q' : D → Mem → Prop) (E' : EX), E' "InvalidName" ["value", "code"] [v, .str "InvalidName"] (M ++ [o]) → Ev (gf ds M) Q' E') (q : ∀ M', Bg M M' → Q (.tup [.str "InvalidName", .tup [v]]) M') : Ev (g_law_why es [.lam F cl] M) Q E := by
  unfold g_law_why m_law_why
  refine LM.ev_bodyE ?_
  refine LM.es_why (d := .lam F cl) rfl (Nat.le_of_ble_eq_true rfl) ?_
  refine LM.ev_act e1 e2 (h _ _ ⟨by decide +kernel, _, rfl, ?_⟩)
  exact field_name (q _ (Bg.push hb o))
theorem why_num {es : List (Addr × D)} {F : LamC} {cl : List (Str × Addr)} {ds : List D} {gf : GF} {v : D} {M : Mem} {Q : D → Mem → Prop} {E : EX} {o : MO} (hb : IsBag M) (e1 : LM.capsD F.caps cl es = some ds) (e2 : LM.tabF lamTab F = some gf)
    (h : ∀ (Q' : D → Mem → Prop) (E' : EX), E' "InvalidNumber" ["value", "code"] [v, .str "InvalidNumber"] (M ++ [o]) → Ev (gf ds M) Q' E') (q : ∀ M', Bg M M' → Q (.tup [.str "InvalidNumber", .tup [v]]) M') : Ev (g_law_why es [.lam F cl] M) Q E := by
  unfold g_law_why m_law_why
  refine LM.ev_bodyE ?_
  refine LM.es_why (d := .lam F cl) rfl (Nat.le_of_ble_eq_true rfl) ?_
  refine LM.ev_act e1 e2 (h _ _ ⟨by decide +kernel, _, rfl, ?_⟩)
  exact field_num (q _ (Bg.push hb o))
/-- no names -/
def NoNm (d : D) : Prop := d = .non ∨ d = .int 3 ∨ d = .str "" ∨ d = .str "A" ∨ d = .str "abcdefg" ∨ d = .bl true ∨ d = .tup [.str "a"] ∨ d = .lst [.str "a"]
theorem not_name {d : D} {M : Mem} {Q : D → Mem → Prop} {E : EX} (h : NoNm d) (q : Q (.bl false) M) : Ev (g_is_name [d] M) Q E := by
  unfold g_is_name m_is_name
  refine ev_body ?_
  have l0 : ("" : Str).length = 0 := by decide +kernel
  have l1 : ("A" : Str).length = 1 := by decide +kernel
  have l7 : ("abcdefg" : Str).length = 7 := by decide +kernel
  rcases h with e | e | e | e | e | e | e | e <;> subst e
  · (repeat (walk_at "EV"))
    exact q
  · (repeat (walk_at "EV"))
    exact q
  · (repeat (first | ((with_reducible apply ev_lenS); (focus decide +kernel)) | (rw [l0]) | walk_at "EV"))
    exact q
  · (repeat (first | ((with_reducible apply ev_lenS); (focus decide +kernel)) | (rw [l1]) | walk_at "EV"))
    refine ev_lcMap (fun _ => .bl false) (fun d hd => ?_) ?_
    · have e : signsD "A" = [.str (sg [65])] := rfl
      rw [e] at hd
      rw [List.mem_singleton.mp hd]
      refine ⟨_, rfl, ?_⟩
      refine ev_op (ev_var rfl (ev_c (ev_els_l ?_)))
      show Ev (fIn false (.str (sg [65])) (.str "abcdefghijklmnopqrstuvwxyz") M) _ _
      exact ev_okE (a := .bl false) (M' := M) rfl ⟨rfl, rfl⟩
    · (repeat (walk_at "EV"))
      refine ev_okE (a := .bl false) (M' := M) rfl ?_
      exact q
  · (repeat (first | ((with_reducible apply ev_lenS); (focus decide +kernel)) | (rw [l7]) | walk_at "EV"))
    exact q
  · (repeat (walk_at "EV"))
    exact q
  · (repeat (walk_at "EV"))
    exact q
  · (repeat (walk_at "EV"))
    exact q
theorem plain_no {d : D} (h : NoNm d) : PlainD 4 d := by
  rcases h with e | e | e | e | e | e | e | e <;> subst e
  · exact .non
  · exact .int
  · exact .str
  · exact .str
  · exact .str
  · exact .bl
  · exact .tup (by decide) fun d hd => by
      rw [List.mem_singleton.mp hd]
      exact .str
  · exact .lst (by decide) fun d hd => by
      rw [List.mem_singleton.mp hd]
      exact .str
def IsN (d : D) : Prop := ∃ z, d = .str z ∧ Nm z
/-- names, then none -/
theorem chk_bad {L ds rest : List D} {v : D} {M : Mem} {Q : D → Mem → Prop} {E : EX} (e : L = ds ++ v :: rest) (h : ∀ d, d ∈ ds → IsN d) (hv : NoNm v) (q : E "InvalidName" ["value", "code"] [v, .str "InvalidName"] M) : Ev (g_check_names [.lst L] M) Q E := by
  subst e
  unfold g_check_names m_check_names
  refine ev_body ?_
  (repeat (walk_at "EV"))
  generalize hr : rho0 2 [D.lst (ds ++ v :: rest)] = ρ
  have hl : ρ.length = 2 := by rw [← hr]; rfl
  clear hr
  induction ds generalizing ρ with
  | nil =>
    match ρ, hl with
    | [r0, r1], _ =>
      refine es_forCons rfl ?_
      (repeat (walk_at "EV"))
      refine not_name hv ?_
      (repeat (walk_at "EV"))
      refine LM.es_raise ?_
      (repeat (walk_at "EV"))
      exact q
  | cons d r ih =>
    obtain ⟨z, rfl, hz⟩ := h d (List.mem_cons_self ..)
    match ρ, hl with
    | [r0, r1], _ =>
      refine es_forCons rfl ?_
      (repeat (walk_at "EV"))
      refine is_name_c hz ?_
      (repeat (walk_at "EV"))
      exact ih (fun d hd => h d (List.mem_cons_of_mem _ hd)) _ rfl
theorem chk_ok {ds : List D} {M : Mem} {Q : D → Mem → Prop} {E : EX} (h : ∀ d, d ∈ ds → IsN d) (q : Q .non M) : Ev (g_check_names [.lst ds] M) Q E := by
  unfold g_check_names m_check_names
  refine ev_body ?_
  (repeat (walk_at "EV"))
  refine es_forInv (fun i ρ M' => M' = M ∧ ρ.length = 2) ⟨rfl, rfl⟩ (fun i d ρ M' hd ⟨e, hl⟩ => ?_) fun ρ M' ⟨e, hl⟩ => ?_
  · subst e
    obtain ⟨z, rfl, hz⟩ := h d (List.mem_of_getElem? hd)
    match ρ, hl with
    | [r0, r1], _ =>
      refine ⟨_, rfl, ?_⟩
      (repeat (walk_at "EV"))
      refine is_name_c hz ?_
      (repeat (walk_at "EV"))
      rfl
  · subst e
    exact q
theorem ins_push {c : Str} {ns : List Str} {vs : List D} {M : Mem} : insOf (.obj M.length) (M ++ [.ins c ns vs]) = some (c, ns, vs) := by
  show (match (M ++ [MO.ins c ns vs])[M.length]? with
    | some (.ins c ns vs) => some (c, ns, vs)
    | _ => none) = _
  rw [get_push]
theorem part_bad {o v b : D} {M : Mem} {Q : D → Mem → Prop} {E : EX} (hv : NoNm v) (q : E "InvalidName" ["value", "code"] [v, .str "InvalidName"] M) : Ev (g_Part_init [o, v, b] M) Q E := by
  unfold g_Part_init m_Part_init
  refine ev_body ?_
  (repeat (walk_at "EV"))
  exact chk_bad (ds := []) (rest := []) rfl (fun d hd => (nomatch hd)) hv q
theorem source_bad {v : D} {M : Mem} {Q : D → Mem → Prop} {E : EX} (hv : NoNm v) (q : E "InvalidName" ["value", "code"] [v, .str "InvalidName"] (M ++ [.ins "Source" [] []])) : Ev (g_Source_init [.obj M.length, v] (M ++ [.ins "Source" [] []])) Q E := by
  unfold g_Source_init m_Source_init
  refine ev_bodyS (ev_body ?_)
  refine es_drop ?_
  refine ev_sup (ns := []) (vs := []) rfl ?_ ?_
  · exact ins_push
  (repeat (walk_at "EV"))
  exact part_bad hv q
theorem store_bad {o n f w b v : D} {ds rest : List D} {M : Mem} {Q : D → Mem → Prop} {E : EX} (e : [n, f, w] = ds ++ v :: rest) (h : ∀ d, d ∈ ds → IsN d) (hv : NoNm v) (q : E "InvalidName" ["value", "code"] [v, .str "InvalidName"] M) : Ev (g_Store_init [o, n, f, w, b] M) Q E := by
  unfold g_Store_init m_Store_init
  refine ev_bodyS (ev_body ?_)
  (repeat (walk_at "EV"))
  exact chk_bad e h hv q
theorem box_bad {o n f b v : D} {ws ds rest : List D} {M : Mem} {Q : D → Mem → Prop} {E : EX} (hl : ws.length ≤ 100) (e : n :: f :: ws = ds ++ v :: rest) (h : ∀ d, d ∈ ds → IsN d) (hv : NoNm v) (q : E "InvalidName" ["value", "code"] [v, .str "InvalidName"] M) : Ev (g_Box_init [o, n, f, b, .tup ws] M) Q E := by
  unfold g_Box_init m_Box_init
  refine ev_bodyS (ev_body ?_)
  (repeat (first | ((with_reducible apply And.intro); (focus (first | exact rfl | (simp; omega)))) | walk_at "EV"))
  exact chk_bad (by rw [List.append_nil]; exact e) h hv q
theorem voter_bad {o n k b v : D} {ws ds rest : List D} {M : Mem} {Q : D → Mem → Prop} {E : EX} (hl : ws.length ≤ 100) (e : n :: ws = ds ++ v :: rest) (h : ∀ d, d ∈ ds → IsN d) (hv : NoNm v) (q : E "InvalidName" ["value", "code"] [v, .str "InvalidName"] M) : Ev (g_Voter_init [o, n, k, b, .tup ws] M) Q E := by
  unfold g_Voter_init m_Voter_init
  refine ev_bodyS (ev_body ?_)
  (repeat (first | ((with_reducible apply And.intro); (focus (first | exact rfl | (simp; omega)))) | walk_at "EV"))
  exact chk_bad (by rw [List.append_nil]; exact e) h hv q
theorem num_t {i : Int} {M : Mem} {Q : D → Mem → Prop} {E : EX} (h : Q (.bl true) M) : Ev (g_is_number [.int i] M) Q E := by
  unfold g_is_number m_is_number
  refine ev_body ?_
  (repeat (walk_at "EV"))
  exact h
/-- four wires and more -/
theorem box_many {o n f b : D} {ws : List D} {M : Mem} {Q : D → Mem → Prop} {E : EX} (hl : 3 < ws.length ∧ ws.length ≤ 100) (hn : IsN n) (hf : IsN f) (h : ∀ d, d ∈ ws → IsN d) (q : E "InvalidNumber" ["value", "code"] [.int ws.length, .str "InvalidNumber"] M) : Ev (g_Box_init [o, n, f, b, .tup ws] M) Q E := by
  unfold g_Box_init m_Box_init
  obtain ⟨h1, h2⟩ := hl
  refine ev_bodyS (ev_body ?_)
  (repeat (first | ((with_reducible apply And.intro); (focus (first | exact rfl | (simp; omega)))) | walk_at "EV"))
  refine chk_ok (fun d hd => ?_) ?_
  · rw [List.append_nil] at hd
    rcases List.mem_cons.mp hd with e | hd
    · rw [e]; exact hn
    rcases List.mem_cons.mp hd with e | hd
    · rw [e]; exact hf
    exact h d hd
  have h3 : (3 : Int) < (ws.length : Int) := by omega
  (repeat (walk_at "EV"))
  refine LM.es_raise ?_
  (repeat (walk_at "EV"))
  exact q
/-- too few wires, or too many -/
theorem voter_many {o n k b : D} {ws : List D} {M : Mem} {Q : D → Mem → Prop} {E : EX} (hl : (ws.length < 3 ∨ 5 < ws.length) ∧ ws.length ≤ 100) (hn : IsN n) (h : ∀ d, d ∈ ws → IsN d) (q : E "InvalidNumber" ["value", "code"] [.int ws.length, .str "InvalidNumber"] M) : Ev (g_Voter_init [o, n, k, b, .tup ws] M) Q E := by
  unfold g_Voter_init m_Voter_init
  obtain ⟨h1, h2⟩ := hl
  refine ev_bodyS (ev_body ?_)
  (repeat (first | ((with_reducible apply And.intro); (focus (first | exact rfl | (simp; omega)))) | walk_at "EV"))
  refine chk_ok (fun d hd => ?_) ?_
  · rw [List.append_nil] at hd
    rcases List.mem_cons.mp hd with e | hd
    · rw [e]; exact hn
    exact h d hd
  by_cases c : (3 : Int) ≤ (ws.length : Int)
  · have c2 : ¬ (ws.length : Int) ≤ 5 := by omega
    (repeat (walk_at "EV"))
    refine LM.es_raise ?_
    (repeat (walk_at "EV"))
    exact q
  · (repeat (walk_at "EV"))
    refine LM.es_raise ?_
    (repeat (walk_at "EV"))
    exact q
/-- no number from 1 to n -/
inductive Bad (n : Int) : D → Prop where
  | non : Bad n .non
  | str {z} : Bad n (.str z)
  | bl {b} : Bad n (.bl b)
  | tup {ds} : Bad n (.tup ds)
  | int {i} : i < 1 ∨ n < i → Bad n (.int i)
theorem voter_least {o n k b : D} {ws : List D} {M : Mem} {Q : D → Mem → Prop} {E : EX} (hl : 3 ≤ ws.length ∧ ws.length ≤ 5) (hk : Bad ws.length k) (hn : IsN n) (h : ∀ d, d ∈ ws → IsN d) (q : E "InvalidNumber" ["value", "code"] [k, .str "InvalidNumber"] M) : Ev (g_Voter_init [o, n, k, b, .tup ws] M) Q E := by
  unfold g_Voter_init m_Voter_init
  obtain ⟨h1, h2⟩ := hl
  have c1 : (3 : Int) ≤ (ws.length : Int) := by omega
  have c2 : (ws.length : Int) ≤ 5 := by omega
  refine ev_bodyS (ev_body ?_)
  (repeat (first | ((with_reducible apply And.intro); (focus (first | exact rfl | (simp; omega)))) | walk_at "EV"))
  refine chk_ok (fun d hd => ?_) ?_
  · rw [List.append_nil] at hd
    rcases List.mem_cons.mp hd with e | hd
    · rw [e]; exact hn
    exact h d hd
  cases hk with
  | @int i ci =>
    (repeat (walk_at "EV"))
    refine num_t ?_
    (repeat (walk_at "EV"))
    by_cases c3 : (1 : Int) ≤ i
    · have c4 : ¬ i ≤ (ws.length : Int) := by omega
      (repeat (walk_at "EV"))
      refine LM.es_raise ?_
      (repeat (walk_at "EV"))
      exact q
    · (repeat (walk_at "EV"))
      refine LM.es_raise ?_
      (repeat (walk_at "EV"))
      exact q
  | _ =>
    (repeat (walk_at "EV"))
    unfold g_is_number m_is_number
    refine ev_body ?_
    (repeat (walk_at "EV"))
    refine LM.es_raise ?_
    (repeat (walk_at "EV"))
    exact q
theorem lam10_c {v : D} {M : Mem} {Q : D → Mem → Prop} {E : EX} (hv : NoNm v) (q : E "InvalidName" ["value", "code"] [v, .str "InvalidName"] (M ++ [.ins "Part" [] []])) : Ev (gl_10 [v] M) Q E := by
  unfold gl_10 ml_10
  refine LM.ev_lamB ?_
  (repeat (walk_at "EV"))
  exact part_bad hv q
theorem lam9_c {v : D} {M : Mem} {Q : D → Mem → Prop} {E : EX} (hv : NoNm v) (q : E "InvalidName" ["value", "code"] [v, .str "InvalidName"] (M ++ [.ins "Source" [] []])) : Ev (gl_9 [v] M) Q E := by
  unfold gl_9 ml_9
  refine LM.ev_lamB ?_
  (repeat (walk_at "EV"))
  exact source_bad hv q
theorem lam8_c {v l : D} {M : Mem} {Q : D → Mem → Prop} {E : EX} (hv : NoNm v) (q : E "InvalidName" ["value", "code"] [v, .str "InvalidName"] (M ++ [.ins "Box" [] []])) : Ev (gl_8 [v, l] M) Q E := by
  unfold gl_8 ml_8
  refine LM.ev_lamB ?_
  (repeat (walk_at "EV"))
  exact box_bad (ws := []) (ds := []) (Nat.le_of_ble_eq_true rfl) rfl all_nil hv q
theorem lam7_c {a v l : D} {M : Mem} {Q : D → Mem → Prop} {E : EX} (ha : IsN a) (hv : NoNm v) (q : E "InvalidName" ["value", "code"] [v, .str "InvalidName"] (M ++ [.ins "Box" [] []])) : Ev (gl_7 [a, v, l] M) Q E := by
  unfold gl_7 ml_7
  refine LM.ev_lamB ?_
  (repeat (walk_at "EV"))
  exact box_bad (ws := [l]) (ds := [a]) (Nat.le_of_ble_eq_true rfl) rfl (all_cons ha all_nil) hv q
theorem lam6_c {a b c v l : D} {M : Mem} {Q : D → Mem → Prop} {E : EX} (ha : IsN a) (hb : IsN b) (hc : IsN c) (hv : NoNm v) (q : E "InvalidName" ["value", "code"] [v, .str "InvalidName"] (M ++ [.ins "Box" [] []])) : Ev (gl_6 [a, b, c, v, l] M) Q E := by
  unfold gl_6 ml_6
  refine LM.ev_lamB ?_
  (repeat (walk_at "EV"))
  exact box_bad (ws := [c, v, l]) (ds := [a, b, c]) (Nat.le_of_ble_eq_true rfl) rfl (all_cons ha (all_cons hb (all_cons hc all_nil))) hv q
theorem lam5_c {v l : D} {M : Mem} {Q : D → Mem → Prop} {E : EX} (hv : NoNm v) (q : E "InvalidName" ["value", "code"] [v, .str "InvalidName"] (M ++ [.ins "Store" [] []])) : Ev (gl_5 [v, l] M) Q E := by
  unfold gl_5 ml_5
  refine LM.ev_lamB ?_
  (repeat (walk_at "EV"))
  exact store_bad (ds := []) rfl all_nil hv q
theorem lam4_c {a v l : D} {M : Mem} {Q : D → Mem → Prop} {E : EX} (ha : IsN a) (hv : NoNm v) (q : E "InvalidName" ["value", "code"] [v, .str "InvalidName"] (M ++ [.ins "Store" [] []])) : Ev (gl_4 [a, v, l] M) Q E := by
  unfold gl_4 ml_4
  refine LM.ev_lamB ?_
  (repeat (walk_at "EV"))
  exact store_bad (ds := [a]) rfl (all_cons ha all_nil) hv q
theorem lam3_c {a b v : D} {M : Mem} {Q : D → Mem → Prop} {E : EX} (ha : IsN a) (hb : IsN b) (hv : NoNm v) (q : E "InvalidName" ["value", "code"] [v, .str "InvalidName"] (M ++ [.ins "Store" [] []])) : Ev (gl_3 [a, b, v] M) Q E := by
  unfold gl_3 ml_3
  refine LM.ev_lamB ?_
  (repeat (walk_at "EV"))
  exact store_bad (ds := [a, b]) rfl (all_cons ha (all_cons hb all_nil)) hv q
theorem lam2_c {v l k : D} {M : Mem} {Q : D → Mem → Prop} {E : EX} (hv : NoNm v) (q : E "InvalidName" ["value", "code"] [v, .str "InvalidName"] (M ++ [.ins "Voter" [] []])) : Ev (gl_2 [v, l, k] M) Q E := by
  unfold gl_2 ml_2
  refine LM.ev_lamB ?_
  (repeat (walk_at "EV"))
  exact voter_bad (ws := [l]) (ds := []) (Nat.le_of_ble_eq_true rfl) rfl all_nil hv q
theorem lam1_c {a b v l k : D} {M : Mem} {Q : D → Mem → Prop} {E : EX} (ha : IsN a) (hb : IsN b) (hv : NoNm v) (q : E "InvalidName" ["value", "code"] [v, .str "InvalidName"] (M ++ [.ins "Voter" [] []])) : Ev (gl_1 [a, b, v, l, k] M) Q E := by
  unfold gl_1 ml_1
  refine LM.ev_lamB ?_
  (repeat (walk_at "EV"))
  exact voter_bad (ws := [b, v, l]) (ds := [a, b]) (Nat.le_of_ble_eq_true rfl) rfl (all_cons ha (all_cons hb all_nil)) hv q
theorem lam0_c {a b c v : D} {M : Mem} {Q : D → Mem → Prop} {E : EX} (ha : IsN a) (hb : IsN b) (hc : IsN c) (hv : NoNm v) (q : E "InvalidName" ["value", "code"] [v, .str "InvalidName"] (M ++ [.ins "Box" [] []])) : Ev (gl_0 [a, b, c, v] M) Q E := by
  unfold gl_0 ml_0
  refine LM.ev_lamB ?_
  (repeat (walk_at "EV"))
  exact box_bad (ws := [c, v, c, c, c]) (ds := [a, b, c]) (Nat.le_of_ble_eq_true rfl) rfl (all_cons ha (all_cons hb (all_cons hc all_nil))) hv q
theorem lam16_c {a b c x : D} {M : Mem} {Q : D → Mem → Prop} {E : EX} (ha : IsN a) (hb : IsN b) (hc : IsN c) (hx : IsN x) (q : E "InvalidNumber" ["value", "code"] [.int 4, .str "InvalidNumber"] (M ++ [.ins "Box" [] []])) : Ev (gl_16 [a, b, c, x] M) Q E := by
  unfold gl_16 ml_16
  refine LM.ev_lamB ?_
  (repeat (walk_at "EV"))
  exact box_many (ws := [x, x, x, c]) ⟨Nat.le_of_ble_eq_true rfl, Nat.le_of_ble_eq_true rfl⟩ ha hb (all_cons hx (all_cons hx (all_cons hx (all_cons hc all_nil)))) q
theorem lam15_c {a b c k : D} {M : Mem} {Q : D → Mem → Prop} {E : EX} (ha : IsN a) (hb : IsN b) (hc : IsN c) (q : E "InvalidNumber" ["value", "code"] [.int 2, .str "InvalidNumber"] (M ++ [.ins "Voter" [] []])) : Ev (gl_15 [a, b, c, k] M) Q E := by
  unfold gl_15 ml_15
  refine LM.ev_lamB ?_
  (repeat (walk_at "EV"))
  exact voter_many (ws := [b, c]) ⟨.inl (Nat.le_of_ble_eq_true rfl), Nat.le_of_ble_eq_true rfl⟩ ha (all_cons hb (all_cons hc all_nil)) q
theorem lam14_c {a k : D} {M : Mem} {Q : D → Mem → Prop} {E : EX} (ha : IsN a) (q : E "InvalidNumber" ["value", "code"] [.int 0, .str "InvalidNumber"] (M ++ [.ins "Voter" [] []])) : Ev (gl_14 [a, k] M) Q E := by
  unfold gl_14 ml_14
  refine LM.ev_lamB ?_
  (repeat (walk_at "EV"))
  exact voter_many (ws := []) ⟨.inl (Nat.le_of_ble_eq_true rfl), Nat.le_of_ble_eq_true rfl⟩ ha all_nil q
theorem lam13_c {a b c k : D} {M : Mem} {Q : D → Mem → Prop} {E : EX} (ha : IsN a) (hb : IsN b) (hc : IsN c) (q : E "InvalidNumber" ["value", "code"] [.int 6, .str "InvalidNumber"] (M ++ [.ins "Voter" [] []])) : Ev (gl_13 [a, b, c, k] M) Q E := by
  unfold gl_13 ml_13
  refine LM.ev_lamB ?_
  (repeat (walk_at "EV"))
  exact voter_many (ws := [b, b, b, c, c, c]) ⟨.inr (Nat.le_of_ble_eq_true rfl), Nat.le_of_ble_eq_true rfl⟩ ha (all_cons hb (all_cons hb (all_cons hb (all_cons hc (all_cons hc (all_cons hc all_nil)))))) q
theorem lam12_c {a b c k : D} {M : Mem} {Q : D → Mem → Prop} {E : EX} (ha : IsN a) (hb : IsN b) (hc : IsN c) (hk : Bad 3 k) (q : E "InvalidNumber" ["value", "code"] [k, .str "InvalidNumber"] (M ++ [.ins "Voter" [] []])) : Ev (gl_12 [a, b, c, k] M) Q E := by
  unfold gl_12 ml_12
  refine LM.ev_lamB ?_
  (repeat (walk_at "EV"))
  exact voter_least (ws := [b, b, c]) ⟨Nat.le_of_ble_eq_true rfl, Nat.le_of_ble_eq_true rfl⟩ hk ha (all_cons hb (all_cons hb (all_cons hc all_nil))) q
theorem lam11_c {a b c k : D} {M : Mem} {Q : D → Mem → Prop} {E : EX} (ha : IsN a) (hb : IsN b) (hc : IsN c) (hk : Bad 5 k) (q : E "InvalidNumber" ["value", "code"] [k, .str "InvalidNumber"] (M ++ [.ins "Voter" [] []])) : Ev (gl_11 [a, b, c, k] M) Q E := by
  unfold gl_11 ml_11
  refine LM.ev_lamB ?_
  (repeat (walk_at "EV"))
  exact voter_least (ws := [b, c, b, c, b]) ⟨Nat.le_of_ble_eq_true rfl, Nat.le_of_ble_eq_true rfl⟩ hk ha (all_cons hb (all_cons hc (all_cons hb (all_cons hc (all_cons hb all_nil))))) q
theorem whys_names {a0 a1 a2 a3 a4 a5 a6 a7 : Addr} (hn : [a0, a1, a2, a3, a4, a5, a6, a7].Nodup) {a b c x v l k m : D} {M : Mem} {Q : D → Mem → Prop} {E : EX} (hM : IsBag M) (ha : IsN a) (hb : IsN b) (hc : IsN c) (hx : IsN x) (hv : NoNm v) (q : ∀ M', Bg M M' → Q (.lst [.tup [.str "InvalidName", .tup [v]], .tup [.str "InvalidName", .tup [v]], .tup [.str "InvalidName", .tup [v]], .tup [.str "InvalidName", .tup [v]], .tup [.str "InvalidName", .tup [v]], .tup [.str "InvalidName", .tup [v]], .tup [.str "InvalidName", .tup [v]], .tup [.str "InvalidName", .tup [v]], .tup [.str "InvalidName", .tup [v]], .tup [.str "InvalidName", .tup [v]], .tup [.str "InvalidName", .tup [v]]]) M') :
    Ev (g_law_whys [(a0, a), (a1, b), (a2, c), (a3, x), (a4, v), (a5, l), (a6, k), (a7, m)] [.lst [.lam (LC 10) (cl_10 [a0, a1, a2, a3, a4, a5, a6, a7]), .lam (LC 9) (cl_9 [a0, a1, a2, a3, a4, a5, a6, a7]), .lam (LC 8) (cl_8 [a0, a1, a2, a3, a4, a5, a6, a7]), .lam (LC 7) (cl_7 [a0, a1, a2, a3, a4, a5, a6, a7]), .lam (LC 6) (cl_6 [a0, a1, a2, a3, a4, a5, a6, a7]), .lam (LC 5) (cl_5 [a0, a1, a2, a3, a4, a5, a6, a7]), .lam (LC 4) (cl_4 [a0, a1, a2, a3, a4, a5, a6, a7]), .lam (LC 3) (cl_3 [a0, a1, a2, a3, a4, a5, a6, a7]), .lam (LC 2) (cl_2 [a0, a1, a2, a3, a4, a5, a6, a7]), .lam (LC 1) (cl_1 [a0, a1, a2, a3, a4, a5, a6, a7]), .lam (LC 0) (cl_0 [a0, a1, a2, a3, a4, a5, a6, a7])]] M) Q E := by
  unfold g_law_whys m_law_whys
  refine LM.ev_bodyE ?_
  (repeat (walk_at "EV"))
  refine ev_lcCons rfl (ev_yes (br_t (LM.ev_callEnv (es := [(a0, a), (a1, b), (a2, c), (a3, x), (a4, v), (a5, l), (a6, k), (a7, m)]) rfl ?_)))
  (repeat (walk_at "EV"))
  refine why_name (Bg.refl hM).bag (caps_10 hn) tab_10 (fun Q' E' z => lam10_c hv z) fun M0 g0 => ?_
  have b0 := (Bg.refl hM).trans g0
  refine ev_lcCons rfl (ev_yes (br_t (LM.ev_callEnv (es := [(a0, a), (a1, b), (a2, c), (a3, x), (a4, v), (a5, l), (a6, k), (a7, m)]) rfl ?_)))
  (repeat (walk_at "EV"))
  refine why_name b0.bag (caps_9 hn) tab_9 (fun Q' E' z => lam9_c hv z) fun M1 g1 => ?_
  have b1 := b0.trans g1
  refine ev_lcCons rfl (ev_yes (br_t (LM.ev_callEnv (es := [(a0, a), (a1, b), (a2, c), (a3, x), (a4, v), (a5, l), (a6, k), (a7, m)]) rfl ?_)))
  (repeat (walk_at "EV"))
  refine why_name b1.bag (caps_8 hn) tab_8 (fun Q' E' z => lam8_c hv z) fun M2 g2 => ?_
  have b2 := b1.trans g2
  refine ev_lcCons rfl (ev_yes (br_t (LM.ev_callEnv (es := [(a0, a), (a1, b), (a2, c), (a3, x), (a4, v), (a5, l), (a6, k), (a7, m)]) rfl ?_)))
  (repeat (walk_at "EV"))
  refine why_name b2.bag (caps_7 hn) tab_7 (fun Q' E' z => lam7_c ha hv z) fun M3 g3 => ?_
  have b3 := b2.trans g3
  refine ev_lcCons rfl (ev_yes (br_t (LM.ev_callEnv (es := [(a0, a), (a1, b), (a2, c), (a3, x), (a4, v), (a5, l), (a6, k), (a7, m)]) rfl ?_)))
  (repeat (walk_at "EV"))
  refine why_name b3.bag (caps_6 hn) tab_6 (fun Q' E' z => lam6_c ha hb hc hv z) fun M4 g4 => ?_
  have b4 := b3.trans g4
  refine ev_lcCons rfl (ev_yes (br_t (LM.ev_callEnv (es := [(a0, a), (a1, b), (a2, c), (a3, x), (a4, v), (a5, l), (a6, k), (a7, m)]) rfl ?_)))
  (repeat (walk_at "EV"))
  refine why_name b4.bag (caps_5 hn) tab_5 (fun Q' E' z => lam5_c hv z) fun M5 g5 => ?_
  have b5 := b4.trans g5
  refine ev_lcCons rfl (ev_yes (br_t (LM.ev_callEnv (es := [(a0, a), (a1, b), (a2, c), (a3, x), (a4, v), (a5, l), (a6, k), (a7, m)]) rfl ?_)))
  (repeat (walk_at "EV"))
  refine why_name b5.bag (caps_4 hn) tab_4 (fun Q' E' z => lam4_c ha hv z) fun M6 g6 => ?_
  have b6 := b5.trans g6
  refine ev_lcCons rfl (ev_yes (br_t (LM.ev_callEnv (es := [(a0, a), (a1, b), (a2, c), (a3, x), (a4, v), (a5, l), (a6, k), (a7, m)]) rfl ?_)))
  (repeat (walk_at "EV"))
  refine why_name b6.bag (caps_3 hn) tab_3 (fun Q' E' z => lam3_c ha hb hv z) fun M7 g7 => ?_
  have b7 := b6.trans g7
  refine ev_lcCons rfl (ev_yes (br_t (LM.ev_callEnv (es := [(a0, a), (a1, b), (a2, c), (a3, x), (a4, v), (a5, l), (a6, k), (a7, m)]) rfl ?_)))
  (repeat (walk_at "EV"))
  refine why_name b7.bag (caps_2 hn) tab_2 (fun Q' E' z => lam2_c hv z) fun M8 g8 => ?_
  have b8 := b7.trans g8
  refine ev_lcCons rfl (ev_yes (br_t (LM.ev_callEnv (es := [(a0, a), (a1, b), (a2, c), (a3, x), (a4, v), (a5, l), (a6, k), (a7, m)]) rfl ?_)))
  (repeat (walk_at "EV"))
  refine why_name b8.bag (caps_1 hn) tab_1 (fun Q' E' z => lam1_c ha hb hv z) fun M9 g9 => ?_
  have b9 := b8.trans g9
  refine ev_lcCons rfl (ev_yes (br_t (LM.ev_callEnv (es := [(a0, a), (a1, b), (a2, c), (a3, x), (a4, v), (a5, l), (a6, k), (a7, m)]) rfl ?_)))
  (repeat (walk_at "EV"))
  refine why_name b9.bag (caps_0 hn) tab_0 (fun Q' E' z => lam0_c ha hb hc hv z) fun M10 g10 => ?_
  have b10 := b9.trans g10
  exact ev_lcNil (q _ b10)
theorem whys_nums {a0 a1 a2 a3 a4 a5 a6 a7 : Addr} (hn : [a0, a1, a2, a3, a4, a5, a6, a7].Nodup) {a b c x v l k m : D} {M : Mem} {Q : D → Mem → Prop} {E : EX} (hM : IsBag M) (ha : IsN a) (hb : IsN b) (hc : IsN c) (hx : IsN x) (hk : Bad 3 k) (hm : Bad 5 m) (q : ∀ M', Bg M M' → Q (.lst [.tup [.str "InvalidNumber", .tup [.int 4]], .tup [.str "InvalidNumber", .tup [.int 2]], .tup [.str "InvalidNumber", .tup [.int 0]], .tup [.str "InvalidNumber", .tup [.int 6]], .tup [.str "InvalidNumber", .tup [k]], .tup [.str "InvalidNumber", .tup [m]]]) M') :
    Ev (g_law_whys [(a0, a), (a1, b), (a2, c), (a3, x), (a4, v), (a5, l), (a6, k), (a7, m)] [.lst [.lam (LC 16) (cl_16 [a0, a1, a2, a3, a4, a5, a6, a7]), .lam (LC 15) (cl_15 [a0, a1, a2, a3, a4, a5, a6, a7]), .lam (LC 14) (cl_14 [a0, a1, a2, a3, a4, a5, a6, a7]), .lam (LC 13) (cl_13 [a0, a1, a2, a3, a4, a5, a6, a7]), .lam (LC 12) (cl_12 [a0, a1, a2, a3, a4, a5, a6, a7]), .lam (LC 11) (cl_11 [a0, a1, a2, a3, a4, a5, a6, a7])]] M) Q E := by
  unfold g_law_whys m_law_whys
  refine LM.ev_bodyE ?_
  (repeat (walk_at "EV"))
  refine ev_lcCons rfl (ev_yes (br_t (LM.ev_callEnv (es := [(a0, a), (a1, b), (a2, c), (a3, x), (a4, v), (a5, l), (a6, k), (a7, m)]) rfl ?_)))
  (repeat (walk_at "EV"))
  refine why_num (Bg.refl hM).bag (caps_16 hn) tab_16 (fun Q' E' z => lam16_c ha hb hc hx z) fun M0 g0 => ?_
  have b0 := (Bg.refl hM).trans g0
  refine ev_lcCons rfl (ev_yes (br_t (LM.ev_callEnv (es := [(a0, a), (a1, b), (a2, c), (a3, x), (a4, v), (a5, l), (a6, k), (a7, m)]) rfl ?_)))
  (repeat (walk_at "EV"))
  refine why_num b0.bag (caps_15 hn) tab_15 (fun Q' E' z => lam15_c ha hb hc z) fun M1 g1 => ?_
  have b1 := b0.trans g1
  refine ev_lcCons rfl (ev_yes (br_t (LM.ev_callEnv (es := [(a0, a), (a1, b), (a2, c), (a3, x), (a4, v), (a5, l), (a6, k), (a7, m)]) rfl ?_)))
  (repeat (walk_at "EV"))
  refine why_num b1.bag (caps_14 hn) tab_14 (fun Q' E' z => lam14_c ha z) fun M2 g2 => ?_
  have b2 := b1.trans g2
  refine ev_lcCons rfl (ev_yes (br_t (LM.ev_callEnv (es := [(a0, a), (a1, b), (a2, c), (a3, x), (a4, v), (a5, l), (a6, k), (a7, m)]) rfl ?_)))
  (repeat (walk_at "EV"))
  refine why_num b2.bag (caps_13 hn) tab_13 (fun Q' E' z => lam13_c ha hb hc z) fun M3 g3 => ?_
  have b3 := b2.trans g3
  refine ev_lcCons rfl (ev_yes (br_t (LM.ev_callEnv (es := [(a0, a), (a1, b), (a2, c), (a3, x), (a4, v), (a5, l), (a6, k), (a7, m)]) rfl ?_)))
  (repeat (walk_at "EV"))
  refine why_num b3.bag (caps_12 hn) tab_12 (fun Q' E' z => lam12_c ha hb hc hk z) fun M4 g4 => ?_
  have b4 := b3.trans g4
  refine ev_lcCons rfl (ev_yes (br_t (LM.ev_callEnv (es := [(a0, a), (a1, b), (a2, c), (a3, x), (a4, v), (a5, l), (a6, k), (a7, m)]) rfl ?_)))
  (repeat (walk_at "EV"))
  refine why_num b4.bag (caps_11 hn) tab_11 (fun Q' E' z => lam11_c ha hb hc hm z) fun M5 g5 => ?_
  have b5 := b4.trans g5
  exact ev_lcNil (q _ b5)
theorem plain_up {v : D} (h : PlainD 4 v) : PlainD 5 v := by
  have key : ∀ (n : Nat) (v : D), PlainD n v → PlainD (n + 1) v := by
    intro n
    induction n with
    | zero => intro v h; cases h
    | succ n ih =>
      intro v h
      cases h with
      | non => exact .non
      | bl => exact .bl
      | int => exact .int
      | str => exact .str
      | lst l h => exact .lst l fun d hd => ih d (h d hd)
      | tup l h => exact .tup l fun d hd => ih d (h d hd)
  exact key 4 v h
theorem bad_c {d : D} (h : d = .non ∨ d = .int 0 ∨ d = .int 4 ∨ d = .bl true ∨ d = .str "1" ∨ d = .int (0 - 1) ∨ d = .int (10 ^ 19) ∨ d = .tup [.int 1]) : Bad 3 d ∧ PlainD 4 d := by
  rcases h with e | e | e | e | e | e | e | e <;> subst e
  · exact ⟨.non, .non⟩
  · exact ⟨.int (by omega), .int⟩
  · exact ⟨.int (by omega), .int⟩
  · exact ⟨.bl, .bl⟩
  · exact ⟨.str, .str⟩
  · exact ⟨.int (by omega), .int⟩
  · exact ⟨.int (by omega), .int⟩
  · exact ⟨.tup, .tup (by decide) fun d hd => by
      rw [List.mem_singleton.mp hd]
      exact .int⟩
theorem many_c {d : D} (h : d = .int 0 ∨ d = .int 6 ∨ d = .non ∨ d = .str "2" ∨ d = .bl true) : Bad 5 d ∧ PlainD 4 d := by
  rcases h with e | e | e | e | e <;> subst e
  · exact ⟨.int (by omega), .int⟩
  · exact ⟨.int (by omega), .int⟩
  · exact ⟨.non, .non⟩
  · exact ⟨.str, .str⟩
  · exact ⟨.bl, .bl⟩
theorem row_plain {v : D} {z : Str} (hv : PlainD 4 v) : PlainD 7 (.tup [.str z, .tup [v]]) := .tup (by simp) fun d hd => by
  simp only [List.mem_cons, List.not_mem_nil, or_false] at hd
  rcases hd with e | e <;> subst e
  · exact .str
  · exact .tup (by simp) fun d hd => by
      rw [List.mem_singleton.mp hd]
      exact plain_up hv
theorem law_ev (Pt : Addr) (a0 a1 a2 a3 a4 a5 a6 a7 : Addr) (hn : [a0, a1, a2, a3, a4, a5, a6, a7].Nodup) (ns : List Int) (h : ns.length ≤ 63) : Ev (g_law Pt [a0, a1, a2, a3, a4, a5, a6, a7] [.scr ns] [.tbl Pt (("law" ++ ".<locals>.") ++ "<lambda>")]) (fun d _ => d = .bl true) noE := by
  unfold g_law m_law
  with_reducible refine ev_body ?_
  (repeat (walk_at "EV"))
  refine bag_c h fun M1 hb1 ht1 => ?_
  (repeat (walk_at "EV"))
  refine es_forInv (fun i ρ M => Hold (∃ (x2 x3 x4 x5 x6 x7 x8 x9 x10 x11 x12 x13 : Sl), ρ = [.val (.scr ns), .val (.obj 2), x2, x3, x4, x5, x6, x7, x8, x9, x10, x11, x12, x13] ∧ IsBag M ∧ M[0]? = some (.tbl Pt (("law" ++ ".<locals>.") ++ "<lambda>")))) ⟨_, _, _, _, _, _, _, _, _, _, _, _, rfl, hb1, ht1⟩ (fun i d ρ M hd ⟨x2, x3, x4, x5, x6, x7, x8, x9, x10, x11, x12, x13, e, hb, ht⟩ => ?_) fun ρ M ⟨x2, x3, x4, x5, x6, x7, x8, x9, x10, x11, x12, x13, e, hb, ht⟩ => ?_
  · subst e
    refine ⟨_, rfl, ?_⟩
    (repeat (walk_at "EV"))
    refine names_c (by decide) hb fun pre post st Ma hok ha => ?_
    have nm : ∀ i, IsN (.str (nmS pre post st i)) := fun i => ⟨_, rfl, nmS_nm hok st i⟩
    refine ⟨_, rfl, ?_⟩
    (repeat (first | ((with_reducible apply ev_pow); (focus decide)) | ((with_reducible apply LM.ev_lamE); (focus exact ht)) | ((with_reducible apply ev_mul4L); (focus exact ⟨by decide, by decide, Nat.le_of_ble_eq_true rfl⟩)) | walk_at "EV"))
    refine of_lst ha.bag (by decide) (by decide) fun odd Mb hodd h1 => ?_
    simp only [List.mem_cons, List.not_mem_nil, or_false] at hodd
    have hodd' : NoNm odd := hodd
    have g1 := ha.trans h1
    (repeat (first | ((with_reducible apply ev_pow); (focus decide)) | ((with_reducible apply LM.ev_lamE); (focus exact ht)) | ((with_reducible apply ev_mul4L); (focus exact ⟨by decide, by decide, Nat.le_of_ble_eq_true rfl⟩)) | walk_at "EV"))
    refine of_lst g1.bag (by decide) (by decide) fun late Mc hlate h2 => ?_
    have g2 := g1.trans h2
    (repeat (first | ((with_reducible apply ev_pow); (focus decide)) | ((with_reducible apply LM.ev_lamE); (focus exact ht)) | ((with_reducible apply ev_mul4L); (focus exact ⟨by decide, by decide, Nat.le_of_ble_eq_true rfl⟩)) | walk_at "EV"))
    refine of_lst g2.bag (by decide) (by decide) fun bad Md hbad h3 => ?_
    simp only [List.mem_cons, List.not_mem_nil, or_false] at hbad
    have g3 := g2.trans h3
    (repeat (first | ((with_reducible apply ev_pow); (focus decide)) | ((with_reducible apply LM.ev_lamE); (focus exact ht)) | ((with_reducible apply ev_mul4L); (focus exact ⟨by decide, by decide, Nat.le_of_ble_eq_true rfl⟩)) | walk_at "EV"))
    refine of_lst g3.bag (by decide) (by decide) fun many Me hmany h4 => ?_
    simp only [List.mem_cons, List.not_mem_nil, or_false] at hmany
    have g4 := g3.trans h4
    obtain ⟨hk, pk⟩ := bad_c hbad
    obtain ⟨hm, pm⟩ := many_c hmany
    have ht0 := ht
    replace ht := g4.tbl.trans ht
    (repeat (first | ((with_reducible apply ev_pow); (focus decide)) | ((with_reducible apply LM.ev_lamE); (focus exact ht)) | ((with_reducible apply ev_mul4L); (focus exact ⟨by decide, by decide, Nat.le_of_ble_eq_true rfl⟩)) | walk_at "EV"))
    refine LM.ev_callB ?_
    (repeat (walk_at "EV"))
    refine whys_names hn g4.bag (nm 0) (nm 1) (nm 2) (nm 3) hodd' fun Mf h5 => ?_
    have g5 := g4.trans h5
    replace ht := h5.tbl.trans ht
    (repeat (first | ((with_reducible apply ev_pow); (focus decide)) | ((with_reducible apply LM.ev_lamE); (focus exact ht)) | ((with_reducible apply ev_mul4L); (focus exact ⟨by decide, by decide, Nat.le_of_ble_eq_true rfl⟩)) | walk_at "EV"))
    refine same_c 8 _ (.lst (by simp) fun d hd => ?_) ?_
    · have e : d = .tup [.str "InvalidName", .tup [odd]] := by
        simp only [List.mem_cons, List.not_mem_nil, or_false, or_self] at hd
        exact hd
      rw [e]
      exact row_plain (plain_no hodd')
    (repeat (first | ((with_reducible apply ev_pow); (focus decide)) | ((with_reducible apply LM.ev_lamE); (focus exact ht)) | ((with_reducible apply ev_mul4L); (focus exact ⟨by decide, by decide, Nat.le_of_ble_eq_true rfl⟩)) | walk_at "EV"))
    refine LM.ev_callB ?_
    (repeat (walk_at "EV"))
    refine whys_nums hn g5.bag (nm 0) (nm 1) (nm 2) (nm 3) hk hm fun Mg h6 => ?_
    have g6 := g5.trans h6
    (repeat (walk_at "EV"))
    refine ev_lcMap (fun d => .tup [.str "InvalidNumber", .tup [d]]) (fun d hd => ⟨_, rfl, ?_⟩) ?_
    · (repeat (walk_at "EV"))
      rfl
    (repeat (walk_at "EV"))
    refine same_c 8 _ (.lst (by simp) fun d hd => ?_) ?_
    · simp only [List.mem_cons, List.not_mem_nil, or_false] at hd
      rcases hd with e | e | e | e | e | e <;> subst e
      · exact row_plain .int
      · exact row_plain .int
      · exact row_plain .int
      · exact row_plain .int
      · exact row_plain pk
      · exact row_plain pm
    (repeat (walk_at "EV"))
    exact ⟨_, _, _, _, _, _, _, _, _, _, _, _, rfl, g6.bag, g6.tbl.trans ht0⟩
  · subst e
    (repeat (walk_at "EV"))
    rfl
theorem law_true (Pt : Addr) (as : List Addr) (ns : List Int) (h1 : as.length = 8) (h2 : as.Nodup) (hl : ns.length ≤ 63) : ∃ M', g_law Pt as [.scr ns] [.tbl Pt (("law" ++ ".<locals>.") ++ "<lambda>")] = .ok (.bl true) M' := by
  match as, h1 with
  | [a0, a1, a2, a3, a4, a5, a6, a7], _ =>
    obtain ⟨d, M', e, h⟩ := (law_ev Pt a0 a1 a2 a3 a4 a5 a6 a7 h2 ns hl).ex
    subst h
    exact ⟨M', e⟩
end G

end
section
set_option maxHeartbeats 4000000
namespace G
open PySem PySem.Spec PyProof.Rows L2 DL
abbrev TT (K : PySem.W.Frag) (mg : Str → Option Value) (P : Program) : Prop := SU.TopS Lk bl K mg P FILE
section
variable {P : Program} {w : World} {K : PySem.W.Frag} {mg : Str → Option Value} {base : Heap}
theorem lm0 (T : TT K mg P) : mg "law" = some (.ref (He.ga K "law")) := T.t.glo 0
theorem lm1 (T : TT K mg P) : mg "_law_bag" = some (.ref (He.ga K "_law_bag")) := T.t.glo 1
theorem lm2 (T : TT K mg P) : mg "range" = none := T.t.free 2
theorem lm3 (T : TT K mg P) : mg "_law_names" = some (.ref (He.ga K "_law_names")) := T.t.glo 3
theorem lm4 (T : TT K mg P) : mg "_law_of" = some (.ref (He.ga K "_law_of")) := T.t.glo 4
theorem lm5 (T : TT K mg P) : mg "_law_whys" = some (.ref (He.ga K "_law_whys")) := T.t.glo 5
theorem lm6 (T : TT K mg P) : mg "_law_same" = some (.ref (He.ga K "_law_same")) := T.t.glo 6
theorem lm7 (T : TT K mg P) : mg "len" = none := T.t.free 7
theorem lm8 (T : TT K mg P) : mg "int" = none := T.t.free 8
theorem lm9 (T : TT K mg P) : mg "_law_take" = some (.ref (He.ga K "_law_take")) := T.t.glo 9
theorem lm10 (T : TT K mg P) : mg "bool" = none := T.t.free 10
theorem lm11 (T : TT K mg P) : mg "isinstance" = none := T.t.free 11
theorem lm12 (T : TT K mg P) : mg "str" = none := T.t.free 12
theorem lm13 (T : TT K mg P) : mg "list" = none := T.t.free 13
theorem lm14 (T : TT K mg P) : mg "tuple" = none := T.t.free 14
theorem lm15 (T : TT K mg P) : mg "zip" = none := T.t.free 15
theorem lm16 (T : TT K mg P) : mg "all" = none := T.t.free 16
theorem lm17 (T : TT K mg P) : mg "_law_why" = some (.ref (He.ga K "_law_why")) := T.t.glo 17
theorem lm18 (T : TT K mg P) : Mk K (He.ga K "Box") (He.ma K (He.ga K "Box") "__init__") := SU.mkAt (He.mkr_ok (T.t.says.fact 18 (f := .mkr "Box"))) rfl
theorem lm19 (T : TT K mg P) : mg "Box" = some (.ref (He.ga K "Box")) := T.t.glo 19
theorem lm20 (T : TT K mg P) : mg "check_names" = some (.ref (He.ga K "check_names")) := T.t.glo 20
theorem lm21 (T : TT K mg P) : ∃ t, mg "MOST_INPUTS" = some (.int 3 t) := T.t.int 21 (x := "MOST_INPUTS") (n := 3)
theorem lm22 (T : TT K mg P) : LM.ExC K (He.ga K "InvalidNumber") (["value"] : List PySem.Str) := LM.exB_ok (T.b 0 (b := LM.exB "InvalidNumber" (["value"] : List PySem.Str)))
theorem lm23 (T : TT K mg P) : PySem.W.findIn K (.ref (He.ga K "InvalidNumber")) "__init__" = some (some (.ref (He.ma K (He.ga K "InvalidNumber") "__init__"))) ∧ PySem.W.typeIn K (.ref (He.ma K (He.ga K "InvalidNumber") "__init__")) = some (.type "function") := LM.einB_ok (T.b 1 (b := LM.einB "InvalidNumber"))
theorem lm24 (T : TT K mg P) : mg "InvalidNumber" = some (.ref (He.ga K "InvalidNumber")) := T.t.glo 22
theorem lm25 (T : TT K mg P) : ∀ c, c ∈ (["Box"] : List PySem.Str) → Cls K (He.ga K c) ∧ NoAttr K (He.ga K c) "function" := (all_cons ⟨(He.cls_ok (T.t.says.fact 23 (f := .cls "Box"))), He.noat_ok (T.t.says.fact 24 (f := .noat "Box" "function"))⟩ all_nil)
theorem lm26 (T : TT K mg P) : ∀ c, c ∈ (["Box"] : List PySem.Str) → Cls K (He.ga K c) ∧ NoAttr K (He.ga K c) "heard" := (all_cons ⟨(He.cls_ok (T.t.says.fact 23 (f := .cls "Box"))), He.noat_ok (T.t.says.fact 25 (f := .noat "Box" "heard"))⟩ all_nil)
theorem lm27 (T : TT K mg P) : ∀ c, c ∈ (["Part", "Source", "Box", "Store", "Voter"] : List PySem.Str) → Cls K (He.ga K c) ∧ NoAttr K (He.ga K c) "name" := (all_cons ⟨(He.cls_ok (T.t.says.fact 33 (f := .cls "Part"))), He.noat_ok (T.t.says.fact 34 (f := .noat "Part" "name"))⟩ (all_cons ⟨(He.cls_ok (T.t.says.fact 31 (f := .cls "Source"))), He.noat_ok (T.t.says.fact 32 (f := .noat "Source" "name"))⟩ (all_cons ⟨(He.cls_ok (T.t.says.fact 23 (f := .cls "Box"))), He.noat_ok (T.t.says.fact 30 (f := .noat "Box" "name"))⟩ (all_cons ⟨(He.cls_ok (T.t.says.fact 28 (f := .cls "Store"))), He.noat_ok (T.t.says.fact 29 (f := .noat "Store" "name"))⟩ (all_cons ⟨(He.cls_ok (T.t.says.fact 26 (f := .cls "Voter"))), He.noat_ok (T.t.says.fact 27 (f := .noat "Voter" "name"))⟩ all_nil)))))
theorem lm28 (T : TT K mg P) : ∀ c, c ∈ (["Part", "Source", "Box", "Store", "Voter"] : List PySem.Str) → Cls K (He.ga K c) ∧ NoAttr K (He.ga K c) "hard" := (all_cons ⟨(He.cls_ok (T.t.says.fact 33 (f := .cls "Part"))), He.noat_ok (T.t.says.fact 39 (f := .noat "Part" "hard"))⟩ (all_cons ⟨(He.cls_ok (T.t.says.fact 31 (f := .cls "Source"))), He.noat_ok (T.t.says.fact 38 (f := .noat "Source" "hard"))⟩ (all_cons ⟨(He.cls_ok (T.t.says.fact 23 (f := .cls "Box"))), He.noat_ok (T.t.says.fact 37 (f := .noat "Box" "hard"))⟩ (all_cons ⟨(He.cls_ok (T.t.says.fact 28 (f := .cls "Store"))), He.noat_ok (T.t.says.fact 36 (f := .noat "Store" "hard"))⟩ (all_cons ⟨(He.cls_ok (T.t.says.fact 26 (f := .cls "Voter"))), He.noat_ok (T.t.says.fact 35 (f := .noat "Voter" "hard"))⟩ all_nil)))))
theorem lm29 (T : TT K mg P) : mg "is_name" = some (.ref (He.ga K "is_name")) := T.t.glo 40
theorem lm30 (T : TT K mg P) : LM.ExC K (He.ga K "InvalidName") (["value"] : List PySem.Str) := LM.exB_ok (T.b 3 (b := LM.exB "InvalidName" (["value"] : List PySem.Str)))
theorem lm31 (T : TT K mg P) : PySem.W.findIn K (.ref (He.ga K "InvalidName")) "__init__" = some (some (.ref (He.ma K (He.ga K "InvalidName") "__init__"))) ∧ PySem.W.typeIn K (.ref (He.ma K (He.ga K "InvalidName") "__init__")) = some (.type "function") := LM.einB_ok (T.b 4 (b := LM.einB "InvalidName"))
theorem lm32 (T : TT K mg P) : mg "InvalidName" = some (.ref (He.ga K "InvalidName")) := T.t.glo 41
theorem lm33 (T : TT K mg P) : ∃ t, mg "MOST_LETTERS" = some (.int 6 t) := T.t.int 42 (x := "MOST_LETTERS") (n := 6)
theorem lm34 (T : TT K mg P) : ∃ t, mg "LETTERS" = some (.str "abcdefghijklmnopqrstuvwxyz" t) := T.t.str 43 (x := "LETTERS") (z := "abcdefghijklmnopqrstuvwxyz")
theorem lm35 (T : TT K mg P) : Mk K (He.ga K "Voter") (He.ma K (He.ga K "Voter") "__init__") := SU.mkAt (He.mkr_ok (T.t.says.fact 44 (f := .mkr "Voter"))) rfl
theorem lm36 (T : TT K mg P) : mg "Voter" = some (.ref (He.ga K "Voter")) := T.t.glo 45
theorem lm37 (T : TT K mg P) : ∃ t, mg "FEWEST_HEARD" = some (.int 3 t) := T.t.int 46 (x := "FEWEST_HEARD") (n := 3)
theorem lm38 (T : TT K mg P) : ∃ t, mg "MOST_HEARD" = some (.int 5 t) := T.t.int 47 (x := "MOST_HEARD") (n := 5)
theorem lm39 (T : TT K mg P) : mg "is_number" = some (.ref (He.ga K "is_number")) := T.t.glo 48
theorem lm40 (T : TT K mg P) : ∀ c, c ∈ (["Voter"] : List PySem.Str) → Cls K (He.ga K c) ∧ NoAttr K (He.ga K c) "least" := (all_cons ⟨(He.cls_ok (T.t.says.fact 26 (f := .cls "Voter"))), He.noat_ok (T.t.says.fact 49 (f := .noat "Voter" "least"))⟩ all_nil)
theorem lm41 (T : TT K mg P) : ∀ c, c ∈ (["Voter"] : List PySem.Str) → Cls K (He.ga K c) ∧ NoAttr K (He.ga K c) "heard" := (all_cons ⟨(He.cls_ok (T.t.says.fact 26 (f := .cls "Voter"))), He.noat_ok (T.t.says.fact 50 (f := .noat "Voter" "heard"))⟩ all_nil)
theorem lm42 (T : TT K mg P) : Mk K (He.ga K "Store") (He.ma K (He.ga K "Store") "__init__") := SU.mkAt (He.mkr_ok (T.t.says.fact 51 (f := .mkr "Store"))) rfl
theorem lm43 (T : TT K mg P) : mg "Store" = some (.ref (He.ga K "Store")) := T.t.glo 52
theorem lm44 (T : TT K mg P) : ∀ c, c ∈ (["Store"] : List PySem.Str) → Cls K (He.ga K c) ∧ NoAttr K (He.ga K c) "content" := (all_cons ⟨(He.cls_ok (T.t.says.fact 28 (f := .cls "Store"))), He.noat_ok (T.t.says.fact 53 (f := .noat "Store" "content"))⟩ all_nil)
theorem lm45 (T : TT K mg P) : ∀ c, c ∈ (["Store"] : List PySem.Str) → Cls K (He.ga K c) ∧ NoAttr K (He.ga K c) "heard" := (all_cons ⟨(He.cls_ok (T.t.says.fact 28 (f := .cls "Store"))), He.noat_ok (T.t.says.fact 54 (f := .noat "Store" "heard"))⟩ all_nil)
theorem lm46 (T : TT K mg P) : Mk K (He.ga K "Source") (He.ma K (He.ga K "Source") "__init__") := SU.mkAt (He.mkr_ok (T.t.says.fact 55 (f := .mkr "Source"))) rfl
theorem lm47 (T : TT K mg P) : mg "Source" = some (.ref (He.ga K "Source")) := T.t.glo 56
theorem lm48 (T : TT K mg P) : Mk K (He.ga K "Part") (He.ma K (He.ga K "Part") "__init__") := SU.mkAt (He.mkr_ok (T.t.says.fact 57 (f := .mkr "Part"))) rfl
theorem lm49 (T : TT K mg P) : mg "Part" = some (.ref (He.ga K "Part")) := T.t.glo 58
theorem lm50 (T : TT K mg P) : LM.XfCs K (["InvalidName", "InvalidNumber", "NothingLeft"] : List PySem.Str) "code" := LM.xfCs_by (T.b 8 (b := LM.xfCsB (["InvalidName", "InvalidNumber", "NothingLeft"] : List PySem.Str) "code"))
theorem lm51 (T : TT K mg P) : mg "VoteError" = some (.ref (He.ga K "VoteError")) := T.t.glo 59
theorem lm52 (T : TT K mg P) : mg "Missing" = some (.ref (He.ga K "Missing")) := T.t.glo 60
theorem lm53 (T : TT K mg P) : mg "NothingLeft" = some (.ref (He.ga K "NothingLeft")) := T.t.glo 61
theorem lm54 (T : TT K mg P) : mg "_law_field" = some (.ref (He.ga K "_law_field")) := T.t.glo 62
theorem lm55 (T : TT K mg P) : LM.XfCs K (["InvalidName", "InvalidNumber", "NothingLeft"] : List PySem.Str) "value" := LM.xfCs_by (T.b 12 (b := LM.xfCsB (["InvalidName", "InvalidNumber", "NothingLeft"] : List PySem.Str) "value"))
theorem lm56 (T : TT K mg P) : LM.XfCs K (["InvalidName", "InvalidNumber", "NothingLeft"] : List PySem.Str) "at" := LM.xfCs_by (T.b 13 (b := LM.xfCsB (["InvalidName", "InvalidNumber", "NothingLeft"] : List PySem.Str) "at"))
theorem lm57 (T : TT K mg P) : LM.XfCs K (["InvalidName", "InvalidNumber", "NothingLeft"] : List PySem.Str) "name" := LM.xfCs_by (T.b 14 (b := LM.xfCsB (["InvalidName", "InvalidNumber", "NothingLeft"] : List PySem.Str) "name"))
theorem lm58 (T : TT K mg P) : LM.XfCs K (["InvalidName", "InvalidNumber", "NothingLeft"] : List PySem.Str) "most" := LM.xfCs_by (T.b 15 (b := LM.xfCsB (["InvalidName", "InvalidNumber", "NothingLeft"] : List PySem.Str) "most"))
theorem lm59 (T : TT K mg P) : LM.XfCs K (["InvalidName", "InvalidNumber", "NothingLeft"] : List PySem.Str) "subject" := LM.xfCs_by (T.b 16 (b := LM.xfCsB (["InvalidName", "InvalidNumber", "NothingLeft"] : List PySem.Str) "subject"))
theorem lm60 (T : TT K mg P) : LM.XfCs K (["InvalidName", "InvalidNumber", "NothingLeft"] : List PySem.Str) "line" := LM.xfCs_by (T.b 17 (b := LM.xfCsB (["InvalidName", "InvalidNumber", "NothingLeft"] : List PySem.Str) "line"))
theorem lm61 (T : TT K mg P) : LM.XfCs K (["InvalidName", "InvalidNumber", "NothingLeft"] : List PySem.Str) "function" := LM.xfCs_by (T.b 18 (b := LM.xfCsB (["InvalidName", "InvalidNumber", "NothingLeft"] : List PySem.Str) "function"))
theorem lm62 (T : TT K mg P) : LM.XfCs K (["InvalidName", "InvalidNumber", "NothingLeft"] : List PySem.Str) "voter" := LM.xfCs_by (T.b 19 (b := LM.xfCsB (["InvalidName", "InvalidNumber", "NothingLeft"] : List PySem.Str) "voter"))
theorem lm63 (T : TT K mg P) : LM.XfCs K (["InvalidName", "InvalidNumber", "NothingLeft"] : List PySem.Str) "loop" := LM.xfCs_by (T.b 20 (b := LM.xfCsB (["InvalidName", "InvalidNumber", "NothingLeft"] : List PySem.Str) "loop"))
theorem lm64 (T : TT K mg P) : mg "super" = none := T.t.free 63
theorem sc_law_bag : FnScope ["_law_script", "_law_cell"] ["_law_script"] (defScope (top 22)) := ⟨rfl, rfl, rfl, by decide +kernel, rfl, by decide +kernel, by decide +kernel⟩
theorem bd_law_bag {fd : FuncData} (F : FunD K "_law_bag" "_law_bag" (defArgs (top 22)) (defBody (top 22)) (defScope (top 22)) [] [] (He.ga K "_law_bag") fd) : Binds K fd ["_law_script"] [] :=
  FunD.bindsN F fun _ _ _ _ _ _ us hl => match us, hl with | [_], _ => rfl
theorem ok_law_bag (T : TT K mg P) : ∃ fd : FuncData, FunD K "_law_bag" "_law_bag" (defArgs (top 22)) (defBody (top 22)) (defScope (top 22)) [] [] (He.ga K "_law_bag") fd ∧ FnOk P w K mg base (L2.CX P w) 1 (He.ga K "_law_bag") fd ["_law_script"] (spD K 1 g_law_bag) := by
  obtain ⟨fd, F0⟩ := T.t.def_ 0
  have F : FunD K "_law_bag" "_law_bag" (defArgs (top 22)) (defBody (top 22)) (defScope (top 22)) [] [] (He.ga K "_law_bag") fd := F0
  refine ⟨fd, F, F.ok (k := 0) sc_law_bag (fun vs H Q E h => spD_len h) (fun cdv A outer s H vs Q E hr h => ?_)⟩
  apply Exists.intro
  apply And.intro
  · exact (pss_one (ps_ret (pe_lst (pa_cons (pe_lc (own := ([("_law_cell", 1)] : List (Str × Nat))) rfl sc_law_bag.nd (pi_anyK (K := K) rfl (pe_slice (slrK (K := K) rfl) (pv 0) po_none (po_some pe_int))) (blkOk_by (N := ["_law_script", "_law_cell"]) (sc := defScope (top 22)) (by decide +kernel)) (fun _ _ _ _ _ => (pg_name (i := 1) sc_law_bag.nd rfl (Or.inl rfl))) (fun _ _ _ _ _ => pts_nil) (fun _ _ _ _ _ => (pe_callTy call_int1 (by rfl) (lm8 T) (by decide +kernel) (pa_cons (pv 1) pa_nil)))) (pa_cons pe_int (pa_cons (pe_op (addK (K := K) rfl) pe_int (pe_op (LM.mul4K (K := K) rfl) pe_int (pe_callB (lenK (K := K) rfl) (by rfl) (lm7 T) PySem.boot_len (pa_cons (pe_slice (slrK (K := K) rfl) (pv 0) po_none (po_some pe_int)) pa_nil)))) pa_nil))))))
  · refine body_ok (N := ["_law_script", "_law_cell"]) (m := m_law_bag) ?_ h
    exact (snd_ret (snd_own (snd_lstF (snd_cons (snd_own (snd_lcF (vs := [1]) (sndi_any (snd_sl (snd_var 0) sndo_none (sndo_some (snd_int 63)))) (sndg_name 1) (by decide) snd_yes (snd_cb cb_int1 (snd_cons (snd_var 1) snd_nil)))) (snd_cons (snd_int 0) (snd_cons (snd_op ops_add (snd_int 5787) (snd_op LM.ops_mul4 (snd_int 37) (snd_cb cb_lenA (snd_cons (snd_sl (snd_var 0) sndo_none (sndo_some (snd_int 63))) snd_nil)))) snd_nil))))))

theorem sc_law_take : FnScope ["_law_bag_here", "_law_many", "_law_cell", "_law_digit", "_law_square"] ["_law_bag_here", "_law_many"] (defScope (top 23)) := ⟨rfl, rfl, rfl, by decide +kernel, rfl, by decide +kernel, by decide +kernel⟩
theorem bd_law_take {fd : FuncData} (F : FunD K "_law_take" "_law_take" (defArgs (top 23)) (defBody (top 23)) (defScope (top 23)) [] [] (He.ga K "_law_take") fd) : Binds K fd ["_law_bag_here", "_law_many"] [] :=
  FunD.bindsN F fun _ _ _ _ _ _ us hl => match us, hl with | [_, _], _ => rfl
theorem ok_law_take (T : TT K mg P) : ∃ fd : FuncData, FunD K "_law_take" "_law_take" (defArgs (top 23)) (defBody (top 23)) (defScope (top 23)) [] [] (He.ga K "_law_take") fd ∧ FnOk P w K mg base (L2.CX P w) 1 (He.ga K "_law_take") fd ["_law_bag_here", "_law_many"] (spD K 2 g_law_take) := by
  obtain ⟨fd, F0⟩ := T.t.def_ 1
  have F : FunD K "_law_take" "_law_take" (defArgs (top 23)) (defBody (top 23)) (defScope (top 23)) [] [] (He.ga K "_law_take") fd := F0
  refine ⟨fd, F, F.ok (k := 0) sc_law_take (fun vs H Q E h => spD_len h) (fun cdv A outer s H vs Q E hr h => ?_)⟩
  apply Exists.intro
  apply And.intro
  · exact (pss_cons (ps_if (PW.pt (pw_and (pt_cmpR (eqK (K := K) rfl hr.units) (pe_ix (ixK (K := K) rfl) (pv 0) pe_int (fun _ _ => rfl)) pe_int (nomark _)) (pw_and1 (pt_cmpR (neK (K := K) rfl hr.units) (pe_ix (ixK (K := K) rfl) (pv 0) pe_int (fun _ _ => rfl)) (pe_lst pa_nil) (nomark _))))) (pss_cons (ps_set (i := 2) sc_law_take.nd rfl (Or.inl rfl) (pe_bmK (K := K) rfl PySem.F.plainAttrs_list PySem.F.slot_list_pop PySem.F.type_list_pop mt_popAt (pe_ix (ixK (K := K) rfl) (pv 0) pe_int (fun _ _ => rfl)) (pa_cons pe_int pa_nil)))
    (pss_one (ps_if (pt_cmpR op_ge (pv 2) (pe_op op_pow pe_int pe_int) (nomark _)) (pss_one (ps_asg (pv 2) (pg_sub (pv 0) pe_int set_list))) (pss_one (ps_asg (pe_op op_mod (pe_callTy call_int1 (by rfl) (lm8 T) (by decide +kernel) (pa_cons (pe_op (addK (K := K) rfl) (pe_op (addK (K := K) rfl) (pe_op (LM.mul4K (K := K) rfl) (pe_ix (ixK (K := K) rfl) (pv 0) pe_int (fun _ _ => rfl)) pe_int) (pe_op (LM.mul4K (K := K) rfl) (pv 2) pe_int)) pe_int) pa_nil)) pe_int) (pg_sub (pv 0) pe_int set_list)))))) pss_nil)
    (pss_cons (ps_if (pt_cmpR op_gt (pe_ix (ixK (K := K) rfl) (pv 0) pe_int (fun _ _ => rfl)) pe_int (nomark _)) (pss_cons (ps_set (i := 3) sc_law_take.nd rfl (Or.inl rfl) (pe_op op_mod (pe_callTy call_int1 (by rfl) (lm8 T) (by decide +kernel) (pa_cons (pe_ix (ixK (K := K) rfl) (pv 0) pe_int (fun _ _ => rfl)) pa_nil)) (pv 1)))
    (pss_cons (ps_asg (pe_op op_fdivW (pe_callTy call_int1 (by rfl) (lm8 T) (by decide +kernel) (pa_cons (pe_ix (ixK (K := K) rfl) (pv 0) pe_int (fun _ _ => rfl)) pa_nil)) (pv 1)) (pg_sub (pv 0) pe_int set_list))
    (pss_one (ps_ret (pv 3))))) pss_nil)
    (pss_cons (ps_set (i := 4) sc_law_take.nd rfl (Or.inl rfl) (pe_op op_mod (pe_callTy call_int1 (by rfl) (lm8 T) (by decide +kernel) (pa_cons (pe_op (LM.mul4K (K := K) rfl) (pe_ix (ixK (K := K) rfl) (pv 0) pe_int (fun _ _ => rfl)) (pe_ix (ixK (K := K) rfl) (pv 0) pe_int (fun _ _ => rfl))) pa_nil)) pe_int))
    (pss_cons (ps_asg (pe_op op_mod (pe_callTy call_int1 (by rfl) (lm8 T) (by decide +kernel) (pa_cons (pe_op (addK (K := K) rfl) (pe_op (addK (K := K) rfl) (pe_op (LM.mul4K (K := K) rfl) (pv 4) pe_int) (pe_op (LM.mul4K (K := K) rfl) (pe_ix (ixK (K := K) rfl) (pv 0) pe_int (fun _ _ => rfl)) pe_int)) pe_int) pa_nil)) pe_int) (pg_sub (pv 0) pe_int set_list))
    (pss_one (ps_ret (pe_op op_mod (pe_callTy call_int1 (by rfl) (lm8 T) (by decide +kernel) (pa_cons (pe_op (addK (K := K) rfl) (pe_op op_fdivW (pe_ix (ixK (K := K) rfl) (pv 0) pe_int (fun _ _ => rfl)) pe_int) (pe_op (LM.mul4K (K := K) rfl) (pe_op op_mod (pe_callTy call_int1 (by rfl) (lm8 T) (by decide +kernel) (pa_cons (pe_ix (ixK (K := K) rfl) (pv 0) pe_int (fun _ _ => rfl)) pa_nil)) pe_int) pe_int)) pa_nil)) (pv 1))))))))
  · refine body_ok (N := ["_law_bag_here", "_law_many", "_law_cell", "_law_digit", "_law_square"]) (m := m_law_take) ?_ h
    exact (snd_seq (snd_ifS (snd_and (snd_testR (snd_op ops_eqA (snd_op ops_ix (snd_var 0) (snd_int 1)) (snd_int 0))) (snd_testR (snd_op ops_neA (snd_op ops_ix (snd_var 0) (snd_int 0)) (snd_lst snd_nil)))) (snd_seq (snd_asg (snd_popAt (snd_op ops_ix (snd_var 0) (snd_int 0))) (sndg_name 2))
    (snd_ifS (snd_testR (snd_op ops_ge (snd_var 2) (snd_op ops_pow (snd_int 10) (snd_int 18)))) (snd_setIx (snd_var 2) (snd_var 0) (snd_int 1)) (snd_setIx (snd_op ops_mod (snd_cb cb_int1 (snd_cons (snd_op ops_add (snd_op ops_add (snd_op LM.ops_mul4 (snd_op ops_ix (snd_var 0) (snd_int 2)) (snd_int 40014)) (snd_op LM.ops_mul4 (snd_var 2) (snd_int 7919))) (snd_int 31)) snd_nil)) (snd_int 2147483563)) (snd_var 0) (snd_int 2)))) snd_next)
    (snd_seq (snd_ifS (snd_testR (snd_op ops_gt (snd_op ops_ix (snd_var 0) (snd_int 1)) (snd_int 0))) (snd_seq (snd_asg (snd_op ops_mod (snd_cb cb_int1 (snd_cons (snd_op ops_ix (snd_var 0) (snd_int 1)) snd_nil)) (snd_var 1)) (sndg_name 3))
    (snd_seq (snd_setIx (snd_op ops_fdiv (snd_cb cb_int1 (snd_cons (snd_op ops_ix (snd_var 0) (snd_int 1)) snd_nil)) (snd_var 1)) (snd_var 0) (snd_int 1))
    (snd_ret (snd_var 3)))) snd_next)
    (snd_seq (snd_asg (snd_op ops_mod (snd_cb cb_int1 (snd_cons (snd_op LM.ops_mul4 (snd_op ops_ix (snd_var 0) (snd_int 2)) (snd_op ops_ix (snd_var 0) (snd_int 2))) snd_nil)) (snd_int 2147483563)) (sndg_name 4))
    (snd_seq (snd_setIx (snd_op ops_mod (snd_cb cb_int1 (snd_cons (snd_op ops_add (snd_op ops_add (snd_op LM.ops_mul4 (snd_var 4) (snd_int 3041)) (snd_op LM.ops_mul4 (snd_op ops_ix (snd_var 0) (snd_int 2)) (snd_int 40692))) (snd_int 12211)) snd_nil)) (snd_int 2147483563)) (snd_var 0) (snd_int 2))
    (snd_ret (snd_op ops_mod (snd_cb cb_int1 (snd_cons (snd_op ops_add (snd_op ops_fdiv (snd_op ops_ix (snd_var 0) (snd_int 2)) (snd_int 37)) (snd_op LM.ops_mul4 (snd_op ops_mod (snd_cb cb_int1 (snd_cons (snd_op ops_ix (snd_var 0) (snd_int 2)) snd_nil)) (snd_int 5003)) (snd_int 89))) snd_nil)) (snd_var 1)))))))

theorem sc_law_of : FnScope ["_law_bag_here", "_law_items"] ["_law_bag_here", "_law_items"] (defScope (top 24)) := ⟨rfl, rfl, rfl, by decide +kernel, rfl, by decide +kernel, by decide +kernel⟩
theorem bd_law_of {fd : FuncData} (F : FunD K "_law_of" "_law_of" (defArgs (top 24)) (defBody (top 24)) (defScope (top 24)) [] [] (He.ga K "_law_of") fd) : Binds K fd ["_law_bag_here", "_law_items"] [] :=
  FunD.bindsN F fun _ _ _ _ _ _ us hl => match us, hl with | [_, _], _ => rfl
theorem ok_law_of (T : TT K mg P) : ∃ fd : FuncData, FunD K "_law_of" "_law_of" (defArgs (top 24)) (defBody (top 24)) (defScope (top 24)) [] [] (He.ga K "_law_of") fd ∧ FnOk P w K mg base (L2.CX P w) 2 (He.ga K "_law_of") fd ["_law_bag_here", "_law_items"] (spD K 2 g_law_of) := by
  obtain ⟨fd_law_take, F_law_take, G_law_take⟩ := ok_law_take (P := P) (w := w) (base := base) T
  have B_law_take := bd_law_take F_law_take
  obtain ⟨fd, F0⟩ := T.t.def_ 2
  have F : FunD K "_law_of" "_law_of" (defArgs (top 24)) (defBody (top 24)) (defScope (top 24)) [] [] (He.ga K "_law_of") fd := F0
  refine ⟨fd, F, F.ok (k := 1) sc_law_of (fun vs H Q E h => spD_len h) (fun cdv A outer s H vs Q E hr h => ?_)⟩
  apply Exists.intro
  apply And.intro
  · exact (pss_one (ps_ret (pe_ix (ixK (K := K) rfl) (pv 1) (pe_callSD G_law_take (hr.mono (by decide)) rfl (lm9 T) F_law_take.kp B_law_take .nil (fun σ => passAt (takes_of rfl rfl rfl rfl) σ) (pa_cons (pv 0) (pa_cons (pe_callB (lenK (K := K) rfl) (by rfl) (lm7 T) PySem.boot_len (pa_cons (pv 1) pa_nil)) pa_nil))) (fun _ _ => rfl))))
  · refine body_ok (N := ["_law_bag_here", "_law_items"]) (m := m_law_of) ?_ h
    exact (snd_ret (snd_op ops_ix (snd_var 1) (snd_call (fun _ => RpL.nil) (snd_cons (snd_var 0) (snd_cons (snd_cb cb_lenA (snd_cons (snd_var 1) snd_nil)) snd_nil)))))

theorem sc_law_names : FnScope ["_law_bag_here", "_law_many", "_law_abc", "_law_stem", "_law_spot", "_law_start", "_law_k"] ["_law_bag_here", "_law_many"] (defScope (top 29)) := ⟨rfl, rfl, rfl, by decide +kernel, rfl, by decide +kernel, by decide +kernel⟩
theorem bd_law_names {fd : FuncData} (F : FunD K "_law_names" "_law_names" (defArgs (top 29)) (defBody (top 29)) (defScope (top 29)) [] [] (He.ga K "_law_names") fd) : Binds K fd ["_law_bag_here", "_law_many"] [] :=
  FunD.bindsN F fun _ _ _ _ _ _ us hl => match us, hl with | [_, _], _ => rfl
theorem ok_law_names (T : TT K mg P) : ∃ fd : FuncData, FunD K "_law_names" "_law_names" (defArgs (top 29)) (defBody (top 29)) (defScope (top 29)) [] [] (He.ga K "_law_names") fd ∧ FnOk P w K mg base (L2.CX P w) 3 (He.ga K "_law_names") fd ["_law_bag_here", "_law_many"] (spD K 2 g_law_names) := by
  obtain ⟨fd_law_of, F_law_of, G_law_of⟩ := ok_law_of (P := P) (w := w) (base := base) T
  have B_law_of := bd_law_of F_law_of
  obtain ⟨fd_law_take, F_law_take, G_law_take⟩ := ok_law_take (P := P) (w := w) (base := base) T
  have B_law_take := bd_law_take F_law_take
  obtain ⟨fd, F0⟩ := T.t.def_ 3
  have F : FunD K "_law_names" "_law_names" (defArgs (top 29)) (defBody (top 29)) (defScope (top 29)) [] [] (He.ga K "_law_names") fd := F0
  refine ⟨fd, F, F.ok (k := 2) sc_law_names (fun vs H Q E h => spD_len h) (fun cdv A outer s H vs Q E hr h => ?_)⟩
  apply Exists.intro
  apply And.intro
  · exact (pss_cons (ps_set (i := 2) sc_law_names.nd rfl (Or.inr rfl) pe_str)
    (pss_cons (ps_set (i := 3) sc_law_names.nd rfl (Or.inr rfl) (pe_joinK (K := K) rfl pe_str (pe_lc (own := ([("_law_k", 6)] : List (Str × Nat))) rfl sc_law_names.nd (pi_range1 rfl (lm2 T) (pa_cons (pe_callSD G_law_take (hr.mono (by decide)) rfl (lm9 T) F_law_take.kp B_law_take .nil (fun σ => passAt (takes_of rfl rfl rfl rfl) σ) (pa_cons (pv 0) (pa_cons pe_int pa_nil))) pa_nil)) (blkOk_by (N := ["_law_bag_here", "_law_many", "_law_abc", "_law_stem", "_law_spot", "_law_start", "_law_k"]) (sc := defScope (top 29)) (by decide +kernel)) (fun _ _ _ _ _ => (pg_name (i := 6) sc_law_names.nd rfl (Or.inl rfl))) (fun _ _ _ _ _ => pts_nil) (fun _ _ _ _ _ => (pe_callSD G_law_of (hr.mono (by decide)) rfl (lm4 T) F_law_of.kp B_law_of .nil (fun σ => passAt takes0 σ) (pa_cons (pv 0) (pa_cons (pv 2) pa_nil)))))))
    (pss_cons (ps_asg (pe_tup (pa_cons (pe_callSD G_law_take (hr.mono (by decide)) rfl (lm9 T) F_law_take.kp B_law_take .nil (fun σ => passAt (takes_of rfl rfl rfl rfl) σ) (pa_cons (pv 0) (pa_cons (pe_op (addK (K := K) rfl) (pe_callB (lenK (K := K) rfl) (by rfl) (lm7 T) PySem.boot_len (pa_cons (pv 3) pa_nil)) pe_int) pa_nil))) (pa_cons (pe_callSD G_law_take (hr.mono (by decide)) rfl (lm9 T) F_law_take.kp B_law_take .nil (fun σ => passAt (takes_of rfl rfl rfl rfl) σ) (pa_cons (pv 0) (pa_cons pe_int pa_nil))) pa_nil))) (LM.pg_tl (K := K) (n := 2) rfl rfl (pgs_cons (pg_name (i := 4) sc_law_names.nd rfl (Or.inr rfl)) (pgs_cons (pg_name (i := 5) sc_law_names.nd rfl (Or.inr rfl)) pgs_nil))))
    (pss_one (ps_ret (pe_lc (own := ([("_law_k", 6)] : List (Str × Nat))) rfl sc_law_names.nd (pi_range1 rfl (lm2 T) (pa_cons (pv 1) pa_nil)) (blkOk_by (N := ["_law_bag_here", "_law_many", "_law_abc", "_law_stem", "_law_spot", "_law_start", "_law_k"]) (sc := defScope (top 29)) (by decide +kernel)) (fun _ _ _ _ _ => (pg_name (i := 6) sc_law_names.nd rfl (Or.inl rfl))) (fun _ _ _ _ _ => pts_nil) (fun _ _ _ _ _ => (pe_op (addK (K := K) rfl) (pe_op (addK (K := K) rfl) (pe_slice (slrK (K := K) rfl) (pv 3) po_none (po_some (pv 4))) (pe_ix (ixK (K := K) rfl) (pv 2) (pe_op op_mod (pe_callTy call_int1 (by rfl) (lm8 T) (by decide +kernel) (pa_cons (pe_op (addK (K := K) rfl) (pv 5) (pe_op (LM.mul4K (K := K) rfl) pe_int (pv 6))) pa_nil)) pe_int) (fun _ _ => rfl))) (pe_slice (slrK (K := K) rfl) (pv 3) (po_some (pv 4)) po_none)))))))))
  · refine body_ok (N := ["_law_bag_here", "_law_many", "_law_abc", "_law_stem", "_law_spot", "_law_start", "_law_k"]) (m := m_law_names) ?_ h
    exact (snd_seq (snd_asg (snd_str "abcdefghijklmnopqrstuvwxyz") (sndg_name 2))
    (snd_seq (snd_asg (snd_m1 mt1_join (snd_str "") (snd_lcF (vs := [6]) (sndi_rng1 (snd_cons (snd_call (fun _ => RpL.nil) (snd_cons (snd_var 0) (snd_cons (snd_int 4) snd_nil))) snd_nil)) (sndg_name 6) (by decide) snd_yes (snd_call (fun _ => RpL.nil) (snd_cons (snd_var 0) (snd_cons (snd_var 2) snd_nil)))).weak) (sndg_name 3))
    (snd_seq (snd_asg (snd_tup (snd_cons (snd_call (fun _ => RpL.nil) (snd_cons (snd_var 0) (snd_cons (snd_op ops_add (snd_cb cb_lenA (snd_cons (snd_var 3) snd_nil)) (snd_int 1)) snd_nil))) (snd_cons (snd_call (fun _ => RpL.nil) (snd_cons (snd_var 0) (snd_cons (snd_int 26) snd_nil))) snd_nil))) (LM.sndg_tl (sndg_cons (sndg_name 4) (sndg_cons (sndg_name 5) sndg_nil))))
    (snd_ret (snd_lcF (vs := [6]) (sndi_rng1 (snd_cons (snd_var 1) snd_nil)) (sndg_name 6) (by decide) snd_yes (snd_op ops_add (snd_op ops_add (snd_sl (snd_var 3) sndo_none (sndo_some (snd_var 4))) (snd_op ops_ix (snd_var 2) (snd_op ops_mod (snd_cb cb_int1 (snd_cons (snd_op ops_add (snd_var 5) (snd_op LM.ops_mul4 (snd_int 3) (snd_var 6))) snd_nil)) (snd_int 26)))) (snd_sl (snd_var 3) (sndo_some (snd_var 4)) sndo_none))).weak))))

theorem sc_law_same : FnScope ["_law_found", "_law_due", "_law_a", "_law_b"] ["_law_found", "_law_due"] (defScope (top 25)) := ⟨rfl, rfl, rfl, by decide +kernel, rfl, by decide +kernel, by decide +kernel⟩
theorem bd_law_same {fd : FuncData} (F : FunD K "_law_same" "_law_same" (defArgs (top 25)) (defBody (top 25)) (defScope (top 25)) [] [] (He.ga K "_law_same") fd) : Binds K fd ["_law_found", "_law_due"] [] :=
  FunD.bindsN F fun _ _ _ _ _ _ us hl => match us, hl with | [_, _], _ => rfl
theorem ok_law_same (T : TT K mg P) : ∀ n : Nat, ∃ fd : FuncData, FunD K "_law_same" "_law_same" (defArgs (top 25)) (defBody (top 25)) (defScope (top 25)) [] [] (He.ga K "_law_same") fd ∧ FnOk P w K mg base (L2.CX P w) (n + 1) (He.ga K "_law_same") fd ["_law_found", "_law_due"] (spD K 2 (g_law_same n)) := by
  obtain ⟨fd, F0⟩ := T.t.def_ 4
  have F : FunD K "_law_same" "_law_same" (defArgs (top 25)) (defBody (top 25)) (defScope (top 25)) [] [] (He.ga K "_law_same") fd := F0
  have B_law_same := bd_law_same F
  intro n
  refine ⟨fd, F, ?_⟩
  induction n with
  | zero => exact fnok_bad
  | succ n ih0 =>
    have ih : Good P w K mg base (n + 1) "_law_same" ["_law_found", "_law_due"] fd (g_law_same n) := ⟨ih0, (lm6 T), F.kp⟩
    refine F.ok (k := n + 1) sc_law_same (fun vs H Q E h => spD_len h) (fun cdv A outer s H vs Q E hr h => ?_)
    apply Exists.intro
    apply And.intro
    · exact (pss_cons (ps_if (PW.pt (pw_or (pt_cmpR op_isN (pv 1) pe_non (nomark _)) (pw_or1 (pt_cmpR op_isN (pv 0) pe_non (nomark _))))) (pss_one (ps_ret (pe_and (pe_cmpR op_isN (pv 1) pe_non (nomark _)) (pe_one (pe_cmpR op_isN (pv 0) pe_non (nomark _)))))) pss_nil)
    (pss_cons (ps_if (PW.pt (pw_or (pt_val (pe_callB (isiK (K := K) rfl) (by rfl) (lm11 T) (by decide +kernel) (pa_cons (pv 1) (pa_cons (pe_bltn rfl (lm10 T) (v := .ty "bool") (by decide +kernel) rfl) pa_nil)))) (pw_or1 (pt_val (pe_callB (isiK (K := K) rfl) (by rfl) (lm11 T) (by decide +kernel) (pa_cons (pv 0) (pa_cons (pe_bltn rfl (lm10 T) (v := .ty "bool") (by decide +kernel) rfl) pa_nil))))))) (pss_one (ps_ret (pe_and (pe_callB (isiK (K := K) rfl) (by rfl) (lm11 T) (by decide +kernel) (pa_cons (pv 1) (pa_cons (pe_bltn rfl (lm10 T) (v := .ty "bool") (by decide +kernel) rfl) pa_nil))) (pe_and (pe_callB (isiK (K := K) rfl) (by rfl) (lm11 T) (by decide +kernel) (pa_cons (pv 0) (pa_cons (pe_bltn rfl (lm10 T) (v := .ty "bool") (by decide +kernel) rfl) pa_nil))) (pe_one (pe_cmpR (eqK (K := K) rfl hr.units) (pv 1) (pv 0) (nomark _))))))) pss_nil)
    (pss_cons (ps_if (pt_val (pe_callB (isiK (K := K) rfl) (by rfl) (lm11 T) (by decide +kernel) (pa_cons (pv 1) (pa_cons (pe_bltn rfl (lm8 T) (v := .ty "int") (by decide +kernel) rfl) pa_nil)))) (pss_one (ps_ret (pe_and (pe_callB (isiK (K := K) rfl) (by rfl) (lm11 T) (by decide +kernel) (pa_cons (pv 0) (pa_cons (pe_bltn rfl (lm8 T) (v := .ty "int") (by decide +kernel) rfl) pa_nil))) (pe_one (pe_cmpR (eqK (K := K) rfl hr.units) (pv 1) (pv 0) (nomark _)))))) pss_nil)
    (pss_cons (ps_if (pt_val (pe_callB (isiK (K := K) rfl) (by rfl) (lm11 T) (by decide +kernel) (pa_cons (pv 1) (pa_cons (pe_bltn rfl (lm12 T) (v := .ty "str") (by decide +kernel) rfl) pa_nil)))) (pss_one (ps_ret (pe_and (pe_callB (isiK (K := K) rfl) (by rfl) (lm11 T) (by decide +kernel) (pa_cons (pv 0) (pa_cons (pe_bltn rfl (lm12 T) (v := .ty "str") (by decide +kernel) rfl) pa_nil))) (pe_one (pe_cmpR (eqK (K := K) rfl hr.units) (pv 1) (pv 0) (nomark _)))))) pss_nil)
    (pss_cons (ps_if (PW.pt (pw_and (pt_val (pe_callB (isiK (K := K) rfl) (by rfl) (lm11 T) (by decide +kernel) (pa_cons (pv 1) (pa_cons (pe_bltn rfl (lm13 T) (v := .ty "list") (by decide +kernel) rfl) pa_nil)))) (pw_and1 (pt_not (pt_val (pe_callB (isiK (K := K) rfl) (by rfl) (lm11 T) (by decide +kernel) (pa_cons (pv 0) (pa_cons (pe_bltn rfl (lm13 T) (v := .ty "list") (by decide +kernel) rfl) pa_nil)))))))) (pss_one (ps_ret pe_bl)) pss_nil)
    (pss_cons (ps_if (PW.pt (pw_and (pt_val (pe_callB (isiK (K := K) rfl) (by rfl) (lm11 T) (by decide +kernel) (pa_cons (pv 1) (pa_cons (pe_bltn rfl (lm14 T) (v := .ty "tuple") (by decide +kernel) rfl) pa_nil)))) (pw_and1 (pt_not (pt_val (pe_callB (isiK (K := K) rfl) (by rfl) (lm11 T) (by decide +kernel) (pa_cons (pv 0) (pa_cons (pe_bltn rfl (lm14 T) (v := .ty "tuple") (by decide +kernel) rfl) pa_nil)))))))) (pss_one (ps_ret pe_bl)) pss_nil)
    (pss_one (ps_ret (pe_and (pe_cmpR (eqK (K := K) rfl hr.units) (pe_callB (lenK (K := K) rfl) (by rfl) (lm7 T) PySem.boot_len (pa_cons (pv 0) pa_nil)) (pe_callB (lenK (K := K) rfl) (by rfl) (lm7 T) PySem.boot_len (pa_cons (pv 1) pa_nil)) (nomark _)) (pe_one (pe_callB (allK (K := K) rfl rfl) (by rfl) (lm16 T) (by decide +kernel) (pa_cons (pe_lc (own := ([("_law_a", 2), ("_law_b", 3)] : List (Str × Nat))) rfl sc_law_same.nd (pi_zipK (K := K) rfl (by rfl) (lm15 T) (pa_cons (pv 0) (pa_cons (pv 1) pa_nil))) (blkOk_by (N := ["_law_found", "_law_due", "_law_a", "_law_b"]) (sc := defScope (top 25)) (by decide +kernel)) (fun _ _ _ _ _ => (LM.pg_tl (K := K) (n := 2) rfl rfl (pgs_cons (pg_name (i := 2) sc_law_same.nd rfl (Or.inl rfl)) (pgs_cons (pg_name (i := 3) sc_law_same.nd rfl (Or.inl rfl)) pgs_nil)))) (fun _ _ _ _ _ => pts_nil) (fun _ _ _ _ _ => (pe_callSD ih0 (hr.mono (by omega)) rfl (lm6 T) F.kp B_law_same .nil (fun σ => passAt takes0 σ) (pa_cons (pv 2) (pa_cons (pv 3) pa_nil))))) pa_nil))))))))))))
    · refine body_ok (N := ["_law_found", "_law_due", "_law_a", "_law_b"]) (m := m_law_same (g_law_same n)) ?_ h
      exact (snd_seq (snd_ifS (snd_or (snd_testR (snd_op ops_isN (snd_var 1) snd_non)) (snd_testR (snd_op ops_isN (snd_var 0) snd_non))) (snd_ret (snd_andV (snd_op ops_isN (snd_var 1) snd_non) (snd_op ops_isN (snd_var 0) snd_non))) snd_next)
    (snd_seq (snd_ifS (snd_or (snd_test (snd_cb cb_isi (snd_cons (snd_var 1) (snd_cons (snd_ty "bool") snd_nil)))) (snd_test (snd_cb cb_isi (snd_cons (snd_var 0) (snd_cons (snd_ty "bool") snd_nil))))) (snd_ret (snd_andV (snd_cb cb_isi (snd_cons (snd_var 1) (snd_cons (snd_ty "bool") snd_nil))) (snd_andV (snd_cb cb_isi (snd_cons (snd_var 0) (snd_cons (snd_ty "bool") snd_nil))) (snd_op ops_eqA (snd_var 1) (snd_var 0))))) snd_next)
    (snd_seq (snd_ifS (snd_test (snd_cb cb_isi (snd_cons (snd_var 1) (snd_cons (snd_ty "int") snd_nil)))) (snd_ret (snd_andV (snd_cb cb_isi (snd_cons (snd_var 0) (snd_cons (snd_ty "int") snd_nil))) (snd_op ops_eqA (snd_var 1) (snd_var 0)))) snd_next)
    (snd_seq (snd_ifS (snd_test (snd_cb cb_isi (snd_cons (snd_var 1) (snd_cons (snd_ty "str") snd_nil)))) (snd_ret (snd_andV (snd_cb cb_isi (snd_cons (snd_var 0) (snd_cons (snd_ty "str") snd_nil))) (snd_op ops_eqA (snd_var 1) (snd_var 0)))) snd_next)
    (snd_seq (snd_ifS (snd_and (snd_test (snd_cb cb_isi (snd_cons (snd_var 1) (snd_cons (snd_ty "list") snd_nil)))) (snd_not (snd_test (snd_cb cb_isi (snd_cons (snd_var 0) (snd_cons (snd_ty "list") snd_nil)))))) (snd_ret (snd_bl false)) snd_next)
    (snd_seq (snd_ifS (snd_and (snd_test (snd_cb cb_isi (snd_cons (snd_var 1) (snd_cons (snd_ty "tuple") snd_nil)))) (snd_not (snd_test (snd_cb cb_isi (snd_cons (snd_var 0) (snd_cons (snd_ty "tuple") snd_nil)))))) (snd_ret (snd_bl false)) snd_next)
    (snd_ret (snd_andV (snd_op ops_eqA (snd_cb cb_lenA (snd_cons (snd_var 0) snd_nil)) (snd_cb cb_lenA (snd_cons (snd_var 1) snd_nil))) (snd_cb cb_all (snd_cons (snd_lcF (vs := [2, 3]) (sndi_zip (snd_cons (snd_var 0) (snd_cons (snd_var 1) snd_nil))) (LM.sndg_tl (sndg_cons (sndg_name 2) (sndg_cons (sndg_name 3) sndg_nil))) (by decide) snd_yes (snd_call (fun _ => RpL.nil) (snd_cons (snd_var 2) (snd_cons (snd_var 3) snd_nil)))).weak snd_nil))))))))))

theorem sc_InvalidNumber_init : NdefX.NScope ["self", "value", "__class__"] ["self", "value"] ["__class__"] (defScope (inClass (top 4) 0)) := NdefX.nscope_by (by decide +kernel)
theorem bd_InvalidNumber_init {fd : FuncData} (F : SU.FunS K "__init__" "InvalidNumber.__init__" (defArgs (inClass (top 4) 0)) (defBody (inClass (top 4) 0)) (defScope (inClass (top 4) 0)) [] [] FILE (He.ga K "InvalidNumber") (He.ma K (He.ga K "InvalidNumber") "__init__") (SU.ccOf K (He.ma K (He.ga K "InvalidNumber") "__init__")) (SU.cdaOf K (He.ma K (He.ga K "InvalidNumber") "__init__")) fd) : Binds K fd ["self", "value"] [] :=
  SU.FunS.bindsN F fun _ _ _ _ _ _ _ us hl => match us, hl with | [_, _], _ => rfl
theorem ok_InvalidNumber_init (T : TT K mg P) : ∃ fd : FuncData, SU.FunS K "__init__" "InvalidNumber.__init__" (defArgs (inClass (top 4) 0)) (defBody (inClass (top 4) 0)) (defScope (inClass (top 4) 0)) [] [] FILE (He.ga K "InvalidNumber") (He.ma K (He.ga K "InvalidNumber") "__init__") (SU.ccOf K (He.ma K (He.ga K "InvalidNumber") "__init__")) (SU.cdaOf K (He.ma K (He.ga K "InvalidNumber") "__init__")) fd ∧ FnOk P w K mg base (L2.CX P w) 1 (He.ma K (He.ga K "InvalidNumber") "__init__") fd ["self", "value"] (LM.spX K (He.ga K "InvalidNumber") "InvalidNumber" (["value"] : List PySem.Str)) := by
  obtain ⟨fd, F0⟩ := T.says.sup 0
  have F : SU.FunS K "__init__" "InvalidNumber.__init__" (defArgs (inClass (top 4) 0)) (defBody (inClass (top 4) 0)) (defScope (inClass (top 4) 0)) [] [] FILE (He.ga K "InvalidNumber") (He.ma K (He.ga K "InvalidNumber") "__init__") (SU.ccOf K (He.ma K (He.ga K "InvalidNumber") "__init__")) (SU.cdaOf K (He.ma K (He.ga K "InvalidNumber") "__init__")) fd := F0
  refine ⟨fd, F, SU.fn_ofS (k := 0) F sc_InvalidNumber_init (fun vs H Q E h => LM.spX_len h) (fun A outer s H vs Q E hr h => ?_)⟩
  have SupF := SU.FunS.supX (CX := L2.CX P w) (w := w) (mg := mg) (base := base) (N := ["self", "value", "__class__"]) (A := A) (outer := outer) (s := s) (H := H) (E := E) (P := P) F rfl rfl rfl rfl T.file T.top (lm64 T) (SU.anyB_ok (T.b 21 (b := SU.anyB)))
  apply Exists.intro
  apply And.intro
  · exact (SU.psas_cons (SU.psa_expr (LM.pea_supI (i0 := 0) SupF rfl (pa_cons pe_str pa_nil))) (SU.psas_cons (SU.psa_of (ps_ost (pv 0) pe_str)) (SU.psas_one (SU.psa_of (ps_ost (pv 0) (pv 1))))))
  · exact LM.initX_run (lm22 T) rfl (by decide) (by decide) h

theorem sc_InvalidName_init : NdefX.NScope ["self", "value", "__class__"] ["self", "value"] ["__class__"] (defScope (inClass (top 3) 0)) := NdefX.nscope_by (by decide +kernel)
theorem bd_InvalidName_init {fd : FuncData} (F : SU.FunS K "__init__" "InvalidName.__init__" (defArgs (inClass (top 3) 0)) (defBody (inClass (top 3) 0)) (defScope (inClass (top 3) 0)) [] [] FILE (He.ga K "InvalidName") (He.ma K (He.ga K "InvalidName") "__init__") (SU.ccOf K (He.ma K (He.ga K "InvalidName") "__init__")) (SU.cdaOf K (He.ma K (He.ga K "InvalidName") "__init__")) fd) : Binds K fd ["self", "value"] [] :=
  SU.FunS.bindsN F fun _ _ _ _ _ _ _ us hl => match us, hl with | [_, _], _ => rfl
theorem ok_InvalidName_init (T : TT K mg P) : ∃ fd : FuncData, SU.FunS K "__init__" "InvalidName.__init__" (defArgs (inClass (top 3) 0)) (defBody (inClass (top 3) 0)) (defScope (inClass (top 3) 0)) [] [] FILE (He.ga K "InvalidName") (He.ma K (He.ga K "InvalidName") "__init__") (SU.ccOf K (He.ma K (He.ga K "InvalidName") "__init__")) (SU.cdaOf K (He.ma K (He.ga K "InvalidName") "__init__")) fd ∧ FnOk P w K mg base (L2.CX P w) 1 (He.ma K (He.ga K "InvalidName") "__init__") fd ["self", "value"] (LM.spX K (He.ga K "InvalidName") "InvalidName" (["value"] : List PySem.Str)) := by
  obtain ⟨fd, F0⟩ := T.says.sup 1
  have F : SU.FunS K "__init__" "InvalidName.__init__" (defArgs (inClass (top 3) 0)) (defBody (inClass (top 3) 0)) (defScope (inClass (top 3) 0)) [] [] FILE (He.ga K "InvalidName") (He.ma K (He.ga K "InvalidName") "__init__") (SU.ccOf K (He.ma K (He.ga K "InvalidName") "__init__")) (SU.cdaOf K (He.ma K (He.ga K "InvalidName") "__init__")) fd := F0
  refine ⟨fd, F, SU.fn_ofS (k := 0) F sc_InvalidName_init (fun vs H Q E h => LM.spX_len h) (fun A outer s H vs Q E hr h => ?_)⟩
  have SupF := SU.FunS.supX (CX := L2.CX P w) (w := w) (mg := mg) (base := base) (N := ["self", "value", "__class__"]) (A := A) (outer := outer) (s := s) (H := H) (E := E) (P := P) F rfl rfl rfl rfl T.file T.top (lm64 T) (SU.anyB_ok (T.b 21 (b := SU.anyB)))
  apply Exists.intro
  apply And.intro
  · exact (SU.psas_cons (SU.psa_expr (LM.pea_supI (i0 := 0) SupF rfl (pa_cons pe_str pa_nil))) (SU.psas_cons (SU.psa_of (ps_ost (pv 0) pe_str)) (SU.psas_one (SU.psa_of (ps_ost (pv 0) (pv 1))))))
  · exact LM.initX_run (lm30 T) rfl (by decide) (by decide) h

theorem sc_is_name : FnScope ["value", "letter"] ["value"] (defScope (top 14)) := ⟨rfl, rfl, rfl, by decide +kernel, rfl, by decide +kernel, by decide +kernel⟩
theorem bd_is_name {fd : FuncData} (F : FunD K "is_name" "is_name" (defArgs (top 14)) (defBody (top 14)) (defScope (top 14)) [] [] (He.ga K "is_name") fd) : Binds K fd ["value"] [] :=
  FunD.bindsN F fun _ _ _ _ _ _ us hl => match us, hl with | [_], _ => rfl
theorem ok_is_name (T : TT K mg P) : ∃ fd : FuncData, FunD K "is_name" "is_name" (defArgs (top 14)) (defBody (top 14)) (defScope (top 14)) [] [] (He.ga K "is_name") fd ∧ FnOk P w K mg base (L2.CX P w) 1 (He.ga K "is_name") fd ["value"] (spD K 1 g_is_name) := by
  obtain ⟨_, h_MOST_LETTERS⟩ := (lm33 T)
  obtain ⟨_, h_LETTERS⟩ := (lm34 T)
  obtain ⟨fd, F0⟩ := T.t.def_ 5
  have F : FunD K "is_name" "is_name" (defArgs (top 14)) (defBody (top 14)) (defScope (top 14)) [] [] (He.ga K "is_name") fd := F0
  refine ⟨fd, F, F.ok (k := 0) sc_is_name (fun vs H Q E h => spD_len h) (fun cdv A outer s H vs Q E hr h => ?_)⟩
  apply Exists.intro
  apply And.intro
  · exact (pss_cons (ps_if (PW.pt (pw_or (pt_not (pt_val (pe_callB (isiK (K := K) rfl) (by rfl) (lm11 T) (by decide +kernel) (pa_cons (pv 0) (pa_cons (pe_bltn rfl (lm12 T) (v := .ty "str") (by decide +kernel) rfl) pa_nil))))) (pw_or1 (pt_not (pt_chain op_le op_le pe_int (pe_callB (lenK (K := K) rfl) (by rfl) (lm7 T) PySem.boot_len (pa_cons (pv 0) pa_nil)) (pe_glob (v := .int 6) rfl h_MOST_LETTERS ⟨_, rfl⟩)))))) (pss_one (ps_ret pe_bl)) pss_nil)
    (pss_one (ps_ret (pe_callB (allK (K := K) rfl rfl) (by rfl) (lm16 T) (by decide +kernel) (pa_cons (pe_lc (own := ([("letter", 1)] : List (Str × Nat))) rfl sc_is_name.nd (pi_anyK (K := K) rfl (pv 0)) (blkOk_by (N := ["value", "letter"]) (sc := defScope (top 14)) (by decide +kernel)) (fun _ _ _ _ _ => (pg_name (i := 1) sc_is_name.nd rfl (Or.inl rfl))) (fun _ _ _ _ _ => pts_nil) (fun _ _ _ _ _ => (pe_cmpR (inA3K (K := K) rfl hr.deep65) (pv 1) (pe_glob (v := .str "abcdefghijklmnopqrstuvwxyz") rfl h_LETTERS ⟨_, rfl⟩) (by rfl)))) pa_nil)))))
  · refine body_ok (N := ["value", "letter"]) (m := m_is_name) ?_ h
    exact (snd_seq (snd_ifS (snd_or (snd_not (snd_test (snd_cb cb_isi (snd_cons (snd_var 0) (snd_cons (snd_ty "str") snd_nil))))) (snd_not (snd_testR (snd_chain ops_le ops_le (snd_int 1) (snd_cb cb_lenA (snd_cons (snd_var 0) snd_nil)) (snd_int 6))))) (snd_ret (snd_bl false)) snd_next)
    (snd_ret (snd_cb cb_all (snd_cons (snd_lcF (vs := [1]) (sndi_any (snd_var 0)) (sndg_name 1) (by decide) snd_yes (snd_op ops_in3 (snd_var 1) (snd_str "abcdefghijklmnopqrstuvwxyz"))).weak snd_nil))))

theorem sc_check_names : FnScope ["values", "value"] ["values"] (defScope (top 15)) := ⟨rfl, rfl, rfl, by decide +kernel, rfl, by decide +kernel, by decide +kernel⟩
theorem bd_check_names {fd : FuncData} (F : FunD K "check_names" "check_names" (defArgs (top 15)) (defBody (top 15)) (defScope (top 15)) [] [] (He.ga K "check_names") fd) : Binds K fd ["values"] [] :=
  FunD.bindsN F fun _ _ _ _ _ _ us hl => match us, hl with | [_], _ => rfl
theorem ok_check_names (T : TT K mg P) : ∃ fd : FuncData, FunD K "check_names" "check_names" (defArgs (top 15)) (defBody (top 15)) (defScope (top 15)) [] [] (He.ga K "check_names") fd ∧ FnOk P w K mg base (L2.CX P w) 3 (He.ga K "check_names") fd ["values"] (spD K 1 g_check_names) := by
  obtain ⟨fd_InvalidName_init, F_InvalidName_init, G_InvalidName_init⟩ := ok_InvalidName_init (P := P) (w := w) (base := base) T
  have B_InvalidName_init := bd_InvalidName_init F_InvalidName_init
  obtain ⟨fd_is_name, F_is_name, G_is_name⟩ := ok_is_name (P := P) (w := w) (base := base) T
  have B_is_name := bd_is_name F_is_name
  obtain ⟨fd, F0⟩ := T.t.def_ 6
  have F : FunD K "check_names" "check_names" (defArgs (top 15)) (defBody (top 15)) (defScope (top 15)) [] [] (He.ga K "check_names") fd := F0
  refine ⟨fd, F, F.ok (k := 2) sc_check_names (fun vs H Q E h => spD_len h) (fun cdv A outer s H vs Q E hr h => ?_)⟩
  apply Exists.intro
  apply And.intro
  · exact (pss_one (ps_for (passes_of rfl) rfl (pi_anyK (K := K) rfl (pv 0)) (pg_name (i := 1) sc_check_names.nd rfl (Or.inl rfl)) (pss_one (ps_if (pt_not (pt_val (pe_callSD G_is_name (hr.mono (by decide)) rfl (lm29 T) F_is_name.kp B_is_name .nil (fun σ => passAt (takes_of rfl rfl rfl rfl) σ) (pa_cons (pv 1) pa_nil)))) (pss_one (LM.ps_raiseX rfl (takes_of rfl rfl rfl rfl) (lm30 T) (lm31 T).1 (lm31 T).2 G_InvalidName_init (hr.mono (by decide)) B_InvalidName_init (passes_false rfl rfl) rfl (lm32 T) (pa_cons (pv 1) pa_nil))) pss_nil))))
  · refine body_ok (N := ["values", "value"]) (m := m_check_names) ?_ h
    exact (snd_for (sndi_any (snd_var 0)) (sndg_name 1) (snd_ifS (snd_not (snd_test (snd_call (fun _ => RpL.nil) (snd_cons (snd_var 1) snd_nil)))) (LM.snd_raise (c := "InvalidName") (code := "InvalidName") (fs := (["value"] : List PySem.Str)) (by decide) (snd_cons (snd_var 1) snd_nil)) snd_next))

theorem sc_Part_init : FnScope ["self", "name", "hard"] ["self", "name", "hard"] (defScope (inClass (top 16) 0)) := ⟨rfl, rfl, rfl, by decide +kernel, rfl, by decide +kernel, by decide +kernel⟩
theorem ok_Part_init (T : TT K mg P) : ∃ fd : FuncData, FunD K "__init__" "Part.__init__" (defArgs (inClass (top 16) 0)) (defBody (inClass (top 16) 0)) (defScope (inClass (top 16) 0)) [] [("hard", (V.bl false))] (He.ma K (He.ga K "Part") "__init__") fd ∧ FnOk P w K mg base (L2.CX P w) 4 (He.ma K (He.ga K "Part") "__init__") fd ["self", "name", "hard"] (spD K 3 g_Part_init) := by
  obtain ⟨fd_check_names, F_check_names, G_check_names⟩ := ok_check_names (P := P) (w := w) (base := base) T
  have B_check_names := bd_check_names F_check_names
  obtain ⟨fd, F0⟩ := T.t.def_ 7
  have F : FunD K "__init__" "Part.__init__" (defArgs (inClass (top 16) 0)) (defBody (inClass (top 16) 0)) (defScope (inClass (top 16) 0)) [] [("hard", (V.bl false))] (He.ma K (He.ga K "Part") "__init__") fd := F0
  refine ⟨fd, F, F.ok (k := 3) sc_Part_init (fun vs H Q E h => spD_len h) (fun cdv A outer s H vs Q E hr h => ?_)⟩
  apply Exists.intro
  apply And.intro
  · exact (pss_cons (ps_expr (pe_callSD G_check_names (hr.mono (by decide)) rfl (lm20 T) F_check_names.kp B_check_names .nil (fun σ => passAt (takes_of rfl rfl rfl rfl) σ) (pa_cons (pe_lst (pa_cons (pv 1) pa_nil)) pa_nil)))
    (pss_cons (ps_fld (pv 0) (pv 1) rfl)
    (pss_one (ps_fld (pv 0) (pv 2) rfl))))
  · refine body_ok (N := ["self", "name", "hard"]) (m := m_Part_init) ?_ h
    exact (snd_seq (snd_drop (snd_call (fun _ => RpL.nil) (snd_cons (snd_lst (snd_cons (snd_var 1) snd_nil)) snd_nil)))
    (snd_seq (snd_fldSet (lm27 T) (snd_var 1) (snd_var 0))
    (snd_fldSet (lm28 T) (snd_var 2) (snd_var 0))))

theorem sc_Box_init : NdefX.NScope ["self", "name", "function", "hard", "wires", "__class__"] ["self", "name", "function", "hard", "wires"] ["__class__"] (defScope (inClass (top 18) 1)) := NdefX.nscope_by (by decide +kernel)
theorem ok_Box_init (T : TT K mg P) : ∃ fd : FuncData, SU.FunS K "__init__" "Box.__init__" (defArgs (inClass (top 18) 1)) (defBody (inClass (top 18) 1)) (defScope (inClass (top 18) 1)) [] [("hard", (V.bl false))] FILE (He.ga K "Box") (He.ma K (He.ga K "Box") "__init__") (SU.ccOf K (He.ma K (He.ga K "Box") "__init__")) (SU.cdaOf K (He.ma K (He.ga K "Box") "__init__")) fd ∧ SU.FnKR P w K mg base (L2.CX P w) 5 (He.ma K (He.ga K "Box") "__init__") (["hard"] : List PySem.Str) (SU.spKR K 5 3 g_Box_init (fun a t b => a ++ b ++ [t])) := by
  obtain ⟨fd_InvalidNumber_init, F_InvalidNumber_init, G_InvalidNumber_init⟩ := ok_InvalidNumber_init (P := P) (w := w) (base := base) T
  have B_InvalidNumber_init := bd_InvalidNumber_init F_InvalidNumber_init
  obtain ⟨fd_Part_init, F_Part_init, G_Part_init⟩ := ok_Part_init (P := P) (w := w) (base := base) T
  obtain ⟨fd_check_names, F_check_names, G_check_names⟩ := ok_check_names (P := P) (w := w) (base := base) T
  have B_check_names := bd_check_names F_check_names
  have KB_Part_init_2_hard := SU.FunD.kbn (ps := (["self", "name", "hard"] : List PySem.Str)) F_Part_init 2 (["hard"] : List PySem.Str) (fun us ws => us ++ ws) (fun a b => a.append b) fun _ _ _ _ _ _ us ws h1 h2 => match us, ws, h1, h2 with | [_, _], [_], _, _ => rfl
  obtain ⟨_, h_MOST_INPUTS⟩ := (lm21 T)
  obtain ⟨fd, F0⟩ := T.says.sup 2
  have F : SU.FunS K "__init__" "Box.__init__" (defArgs (inClass (top 18) 1)) (defBody (inClass (top 18) 1)) (defScope (inClass (top 18) 1)) [] [("hard", (V.bl false))] FILE (He.ga K "Box") (He.ma K (He.ga K "Box") "__init__") (SU.ccOf K (He.ma K (He.ga K "Box") "__init__")) (SU.cdaOf K (He.ma K (He.ga K "Box") "__init__")) fd := F0
  refine ⟨fd, F, SU.fn_starKS (k := 4) (np := 3) (ps := ["self", "name", "function", "hard", "wires"]) (ks := (["hard"] : List PySem.Str)) (g := fun a t b => a ++ b ++ [t]) (sp := spD K 5 g_Box_init) F sc_Box_init StX.cxUp (fun a b c => (a.append c).append (.cons b .nil)) (SU.FunS.star (np := 3) (ks := (["hard"] : List PySem.Str)) (g := fun a t b => a ++ b ++ [t]) F fun _ _ _ _ _ _ _ us rest ws h1 h2 => match us, rest, ws, h1, h2 with | [_, _, _], [], [_], _, _ => rfl | [_, _, _], _ :: _, [_], _, _ => rfl) (fun vs H Q E h => spD_len h) (fun A outer s H vs Q E hr h => ?_)⟩
  have SupF := SU.FunS.supX (CX := L2.CX P w) (w := w) (mg := mg) (base := base) (N := ["self", "name", "function", "hard", "wires", "__class__"]) (A := A) (outer := outer) (s := s) (H := H) (E := E) (P := P) F rfl rfl rfl rfl T.file T.top (lm64 T) (SU.anyB_ok (T.b 21 (b := SU.anyB)))
  apply Exists.intro
  apply And.intro
  · exact (SU.psas_cons (SU.psa_of (ps_expr (pe_callSD G_check_names (hr.mono (by decide)) rfl (lm20 T) F_check_names.kp B_check_names .nil (fun σ => passAt (takes_of rfl rfl rfl rfl) σ) (pa_cons (pe_lst (pa_cons (pv 1) (pa_cons (pv 2) (StX.pa_star (pv 4) pa_nil)))) pa_nil))))
    (SU.psas_cons (SU.psa_of (ps_if (pt_cmpR op_gt (pe_callB (lenK (K := K) rfl) (by rfl) (lm7 T) PySem.boot_len (pa_cons (pv 4) pa_nil)) (pe_glob (v := .int 3) rfl h_MOST_INPUTS ⟨_, rfl⟩) (nomark _)) (pss_one (LM.ps_raiseX rfl (takes_of rfl rfl rfl rfl) (lm22 T) (lm23 T).1 (lm23 T).2 G_InvalidNumber_init (hr.mono (by decide)) B_InvalidNumber_init (passes_false rfl rfl) rfl (lm24 T) (pa_cons (pe_callB (lenK (K := K) rfl) (by rfl) (lm7 T) PySem.boot_len (pa_cons (pv 4) pa_nil)) pa_nil))) pss_nil))
    (SU.psas_cons (SU.psa_expr (SU.pea_supK (i0 := 0) SupF (SU.supB_ok (X := _) rfl (by decide) (T.b 2 (b := SU.supB "Box" "Box" "__init__" (fun K => He.ma K (He.ga K "Part") "__init__")))) rfl G_Part_init (hr.mono (by decide)) KB_Part_init_2_hard (fun σ => passAt (takes_of rfl rfl rfl rfl) σ) (pa_cons (pv 1) pa_nil) (pk_cons (pv 3) pk_nil)))
    (SU.psas_cons (SU.psa_of (ps_fld (pv 0) (pv 2) rfl))
    (SU.psas_one (SU.psa_of (ps_fld (pv 0) (pv 4) rfl)))))))
  · refine SU.body_okS (N := ["self", "name", "function", "hard", "wires", "__class__"]) (m := m_Box_init) ?_ h
    exact (snd_seq (snd_drop (snd_call (fun _ => RpL.nil) (snd_cons (snd_lst (snd_cons (snd_var 1) (snd_cons (snd_var 2) (snda_star (snd_var 4) snd_nil)))) snd_nil)))
    (snd_seq (snd_ifS (snd_testR (snd_op ops_gt (snd_cb cb_lenA (snd_cons (snd_var 4) snd_nil)) (snd_int 3))) (LM.snd_raise (c := "InvalidNumber") (code := "InvalidNumber") (fs := (["value"] : List PySem.Str)) (by decide) (snd_cons (snd_cb cb_lenA (snd_cons (snd_var 4) snd_nil)) snd_nil)) snd_next)
    (snd_seq (snd_drop (SU.snd_supK (c := "Box") (i0 := 0) (n := 3) (na := 1) (nb := 1) (g := g_Part_init) (pm := fun a b => a ++ b) (gW := fun a b => a ++ b) (fun _ _ _ => rfl) (fun _ _ _ _ _ r1 r2 => r1.append r2) (snd_cons (snd_var 1) snd_nil) (snd_cons (snd_var 3) snd_nil)))
    (snd_seq (snd_fldSet (lm25 T) (snd_var 2) (snd_var 0))
    (snd_fldSet (lm26 T) (snd_var 4) (snd_var 0))))))
theorem okd_Box_init (T : TT K mg P) : SU.FnKR P w K mg base (L2.CX P w) 5 (He.ma K (He.ga K "Box") "__init__") [] (SU.spKR K 5 3 g_Box_init (fun a t _ => a ++ [(V.bl false)] ++ [t])) := by
  obtain ⟨fd_InvalidNumber_init, F_InvalidNumber_init, G_InvalidNumber_init⟩ := ok_InvalidNumber_init (P := P) (w := w) (base := base) T
  have B_InvalidNumber_init := bd_InvalidNumber_init F_InvalidNumber_init
  obtain ⟨fd_Part_init, F_Part_init, G_Part_init⟩ := ok_Part_init (P := P) (w := w) (base := base) T
  obtain ⟨fd_check_names, F_check_names, G_check_names⟩ := ok_check_names (P := P) (w := w) (base := base) T
  have B_check_names := bd_check_names F_check_names
  have KB_Part_init_2_hard := SU.FunD.kbn (ps := (["self", "name", "hard"] : List PySem.Str)) F_Part_init 2 (["hard"] : List PySem.Str) (fun us ws => us ++ ws) (fun a b => a.append b) fun _ _ _ _ _ _ us ws h1 h2 => match us, ws, h1, h2 with | [_, _], [_], _, _ => rfl
  obtain ⟨_, h_MOST_INPUTS⟩ := (lm21 T)
  obtain ⟨fd, F0⟩ := T.says.sup 2
  have F : SU.FunS K "__init__" "Box.__init__" (defArgs (inClass (top 18) 1)) (defBody (inClass (top 18) 1)) (defScope (inClass (top 18) 1)) [] [("hard", (V.bl false))] FILE (He.ga K "Box") (He.ma K (He.ga K "Box") "__init__") (SU.ccOf K (He.ma K (He.ga K "Box") "__init__")) (SU.cdaOf K (He.ma K (He.ga K "Box") "__init__")) fd := F0
  obtain ⟨v0, rv, hb⟩ := LM.FunS.bstar (np := 3) (ps := ["self", "name", "function", "hard", "wires"]) (q := ("hard", (V.bl false))) (g := fun us v t => us ++ [v] ++ [t]) F fun _ _ _ _ _ _ _ us rest v h1 => match us, rest, h1 with | [_, _, _], [], _ => ⟨_, _, _, _, _, _, rfl, rfl, rfl⟩ | [_, _, _], _ :: _, _ => ⟨_, _, _, _, _, _, rfl, rfl, rfl⟩
  refine LM.fn_starKD (k := 4) (np := 3) (ps := ["self", "name", "function", "hard", "wires"]) (gV := fun a t => a ++ [(V.bl false)] ++ [t]) (gU := fun us t => us ++ [v0] ++ [t]) (sp := spD K 5 g_Box_init) F sc_Box_init StX.cxUp (fun a b => (a.append (.cons rv .nil)).append (.cons b .nil)) hb (fun vs H Q E h => spD_len h) (fun A outer s H vs Q E hr h => ?_)
  have SupF := SU.FunS.supX (CX := L2.CX P w) (w := w) (mg := mg) (base := base) (N := ["self", "name", "function", "hard", "wires", "__class__"]) (A := A) (outer := outer) (s := s) (H := H) (E := E) (P := P) F rfl rfl rfl rfl T.file T.top (lm64 T) (SU.anyB_ok (T.b 21 (b := SU.anyB)))
  apply Exists.intro
  apply And.intro
  · exact (SU.psas_cons (SU.psa_of (ps_expr (pe_callSD G_check_names (hr.mono (by decide)) rfl (lm20 T) F_check_names.kp B_check_names .nil (fun σ => passAt (takes_of rfl rfl rfl rfl) σ) (pa_cons (pe_lst (pa_cons (pv 1) (pa_cons (pv 2) (StX.pa_star (pv 4) pa_nil)))) pa_nil))))
    (SU.psas_cons (SU.psa_of (ps_if (pt_cmpR op_gt (pe_callB (lenK (K := K) rfl) (by rfl) (lm7 T) PySem.boot_len (pa_cons (pv 4) pa_nil)) (pe_glob (v := .int 3) rfl h_MOST_INPUTS ⟨_, rfl⟩) (nomark _)) (pss_one (LM.ps_raiseX rfl (takes_of rfl rfl rfl rfl) (lm22 T) (lm23 T).1 (lm23 T).2 G_InvalidNumber_init (hr.mono (by decide)) B_InvalidNumber_init (passes_false rfl rfl) rfl (lm24 T) (pa_cons (pe_callB (lenK (K := K) rfl) (by rfl) (lm7 T) PySem.boot_len (pa_cons (pv 4) pa_nil)) pa_nil))) pss_nil))
    (SU.psas_cons (SU.psa_expr (SU.pea_supK (i0 := 0) SupF (SU.supB_ok (X := _) rfl (by decide) (T.b 2 (b := SU.supB "Box" "Box" "__init__" (fun K => He.ma K (He.ga K "Part") "__init__")))) rfl G_Part_init (hr.mono (by decide)) KB_Part_init_2_hard (fun σ => passAt (takes_of rfl rfl rfl rfl) σ) (pa_cons (pv 1) pa_nil) (pk_cons (pv 3) pk_nil)))
    (SU.psas_cons (SU.psa_of (ps_fld (pv 0) (pv 2) rfl))
    (SU.psas_one (SU.psa_of (ps_fld (pv 0) (pv 4) rfl)))))))
  · refine SU.body_okS (N := ["self", "name", "function", "hard", "wires", "__class__"]) (m := m_Box_init) ?_ h
    exact (snd_seq (snd_drop (snd_call (fun _ => RpL.nil) (snd_cons (snd_lst (snd_cons (snd_var 1) (snd_cons (snd_var 2) (snda_star (snd_var 4) snd_nil)))) snd_nil)))
    (snd_seq (snd_ifS (snd_testR (snd_op ops_gt (snd_cb cb_lenA (snd_cons (snd_var 4) snd_nil)) (snd_int 3))) (LM.snd_raise (c := "InvalidNumber") (code := "InvalidNumber") (fs := (["value"] : List PySem.Str)) (by decide) (snd_cons (snd_cb cb_lenA (snd_cons (snd_var 4) snd_nil)) snd_nil)) snd_next)
    (snd_seq (snd_drop (SU.snd_supK (c := "Box") (i0 := 0) (n := 3) (na := 1) (nb := 1) (g := g_Part_init) (pm := fun a b => a ++ b) (gW := fun a b => a ++ b) (fun _ _ _ => rfl) (fun _ _ _ _ _ r1 r2 => r1.append r2) (snd_cons (snd_var 1) snd_nil) (snd_cons (snd_var 3) snd_nil)))
    (snd_seq (snd_fldSet (lm25 T) (snd_var 2) (snd_var 0))
    (snd_fldSet (lm26 T) (snd_var 4) (snd_var 0))))))

theorem okL_0 (T : TT K mg P) : LM.LamOk P w K mg base 7 (LC 0) (spD K 4 gl_0) := by
  obtain ⟨fd_Box_init, F_Box_init, G_Box_init⟩ := ok_Box_init (P := P) (w := w) (base := base) T
  have GD_Box_init := okd_Box_init (P := P) (w := w) (base := base) T
  refine LM.lam_of (k := 6) (LM.lamSc_by (pn := (["_law_z"] : List PySem.Str)) (by decide +kernel)) (LM.bindL1 (x := "_law_z") rfl fun _ _ _ _ _ _ => ⟨_, rfl, fun _ => rfl⟩) rfl fun A outer s H us Q E f c cl hr h => ?_
  apply Exists.intro
  apply And.intro
  · exact (SU.pe_makeKR (lm18 T) GD_Box_init (hr.mono (by decide)) rfl (lm19 T) (fun σ => passAt (takes_of rfl rfl rfl rfl) σ) (pa_cons (pv 0) (pa_cons (pv 1) (pa_cons (pv 2) (pa_cons (pv 3) (pa_cons (pv 2) (pa_cons (pv 2) (pa_cons (pv 2) pa_nil))))))) pk_nil)
  · refine LM.run_expr (m := ml_0) ?_ h
    exact (SU.snd_makeKR (c := "Box") (n := 5) (np := 3) (m := 0) (g := g_Box_init) (pm := fun a t _ => a ++ [(D.bl false)] ++ [t]) (gV := fun a t _ => a ++ [(V.bl false)] ++ [t]) (fun _ _ _ _ _ _ _ r1 r2 r3 => (r1.append (RpL.cons (rp_bl _) RpL.nil)).append (RpL.cons r2 RpL.nil)) (snd_cons (snd_var 0) (snd_cons (snd_var 1) (snd_cons (snd_var 2) (snd_cons (snd_var 3) (snd_cons (snd_var 2) (snd_cons (snd_var 2) (snd_cons (snd_var 2) snd_nil))))))) snd_nil)

theorem sc_is_number : FnScope ["value"] ["value"] (defScope (top 13)) := ⟨rfl, rfl, rfl, by decide +kernel, rfl, by decide +kernel, by decide +kernel⟩
theorem bd_is_number {fd : FuncData} (F : FunD K "is_number" "is_number" (defArgs (top 13)) (defBody (top 13)) (defScope (top 13)) [] [] (He.ga K "is_number") fd) : Binds K fd ["value"] [] :=
  FunD.bindsN F fun _ _ _ _ _ _ us hl => match us, hl with | [_], _ => rfl
theorem ok_is_number (T : TT K mg P) : ∃ fd : FuncData, FunD K "is_number" "is_number" (defArgs (top 13)) (defBody (top 13)) (defScope (top 13)) [] [] (He.ga K "is_number") fd ∧ FnOk P w K mg base (L2.CX P w) 1 (He.ga K "is_number") fd ["value"] (spD K 1 g_is_number) := by
  obtain ⟨fd, F0⟩ := T.t.def_ 8
  have F : FunD K "is_number" "is_number" (defArgs (top 13)) (defBody (top 13)) (defScope (top 13)) [] [] (He.ga K "is_number") fd := F0
  refine ⟨fd, F, F.ok (k := 0) sc_is_number (fun vs H Q E h => spD_len h) (fun cdv A outer s H vs Q E hr h => ?_)⟩
  apply Exists.intro
  apply And.intro
  · exact (pss_one (ps_ret (pe_and (pe_callB (isiK (K := K) rfl) (by rfl) (lm11 T) (by decide +kernel) (pa_cons (pv 0) (pa_cons (pe_bltn rfl (lm8 T) (v := .ty "int") (by decide +kernel) rfl) pa_nil))) (pe_one (pe_not (pe_callB (isiK (K := K) rfl) (by rfl) (lm11 T) (by decide +kernel) (pa_cons (pv 0) (pa_cons (pe_bltn rfl (lm10 T) (v := .ty "bool") (by decide +kernel) rfl) pa_nil))))))))
  · refine body_ok (N := ["value"]) (m := m_is_number) ?_ h
    exact (snd_ret (snd_andV (snd_cb cb_isi (snd_cons (snd_var 0) (snd_cons (snd_ty "int") snd_nil))) (snd_notV (snd_cb cb_isi (snd_cons (snd_var 0) (snd_cons (snd_ty "bool") snd_nil))))))

theorem sc_Voter_init : NdefX.NScope ["self", "name", "least", "hard", "wires", "__class__"] ["self", "name", "least", "hard", "wires"] ["__class__"] (defScope (inClass (top 20) 1)) := NdefX.nscope_by (by decide +kernel)
theorem ok_Voter_init (T : TT K mg P) : ∃ fd : FuncData, SU.FunS K "__init__" "Voter.__init__" (defArgs (inClass (top 20) 1)) (defBody (inClass (top 20) 1)) (defScope (inClass (top 20) 1)) [] [("hard", (V.bl false))] FILE (He.ga K "Voter") (He.ma K (He.ga K "Voter") "__init__") (SU.ccOf K (He.ma K (He.ga K "Voter") "__init__")) (SU.cdaOf K (He.ma K (He.ga K "Voter") "__init__")) fd ∧ SU.FnKR P w K mg base (L2.CX P w) 5 (He.ma K (He.ga K "Voter") "__init__") (["hard"] : List PySem.Str) (SU.spKR K 5 3 g_Voter_init (fun a t b => a ++ b ++ [t])) := by
  obtain ⟨fd_InvalidNumber_init, F_InvalidNumber_init, G_InvalidNumber_init⟩ := ok_InvalidNumber_init (P := P) (w := w) (base := base) T
  have B_InvalidNumber_init := bd_InvalidNumber_init F_InvalidNumber_init
  obtain ⟨fd_Part_init, F_Part_init, G_Part_init⟩ := ok_Part_init (P := P) (w := w) (base := base) T
  obtain ⟨fd_check_names, F_check_names, G_check_names⟩ := ok_check_names (P := P) (w := w) (base := base) T
  have B_check_names := bd_check_names F_check_names
  obtain ⟨fd_is_number, F_is_number, G_is_number⟩ := ok_is_number (P := P) (w := w) (base := base) T
  have B_is_number := bd_is_number F_is_number
  have KB_Part_init_2_hard := SU.FunD.kbn (ps := (["self", "name", "hard"] : List PySem.Str)) F_Part_init 2 (["hard"] : List PySem.Str) (fun us ws => us ++ ws) (fun a b => a.append b) fun _ _ _ _ _ _ us ws h1 h2 => match us, ws, h1, h2 with | [_, _], [_], _, _ => rfl
  obtain ⟨_, h_FEWEST_HEARD⟩ := (lm37 T)
  obtain ⟨_, h_MOST_HEARD⟩ := (lm38 T)
  obtain ⟨fd, F0⟩ := T.says.sup 3
  have F : SU.FunS K "__init__" "Voter.__init__" (defArgs (inClass (top 20) 1)) (defBody (inClass (top 20) 1)) (defScope (inClass (top 20) 1)) [] [("hard", (V.bl false))] FILE (He.ga K "Voter") (He.ma K (He.ga K "Voter") "__init__") (SU.ccOf K (He.ma K (He.ga K "Voter") "__init__")) (SU.cdaOf K (He.ma K (He.ga K "Voter") "__init__")) fd := F0
  refine ⟨fd, F, SU.fn_starKS (k := 4) (np := 3) (ps := ["self", "name", "least", "hard", "wires"]) (ks := (["hard"] : List PySem.Str)) (g := fun a t b => a ++ b ++ [t]) (sp := spD K 5 g_Voter_init) F sc_Voter_init StX.cxUp (fun a b c => (a.append c).append (.cons b .nil)) (SU.FunS.star (np := 3) (ks := (["hard"] : List PySem.Str)) (g := fun a t b => a ++ b ++ [t]) F fun _ _ _ _ _ _ _ us rest ws h1 h2 => match us, rest, ws, h1, h2 with | [_, _, _], [], [_], _, _ => rfl | [_, _, _], _ :: _, [_], _, _ => rfl) (fun vs H Q E h => spD_len h) (fun A outer s H vs Q E hr h => ?_)⟩
  have SupF := SU.FunS.supX (CX := L2.CX P w) (w := w) (mg := mg) (base := base) (N := ["self", "name", "least", "hard", "wires", "__class__"]) (A := A) (outer := outer) (s := s) (H := H) (E := E) (P := P) F rfl rfl rfl rfl T.file T.top (lm64 T) (SU.anyB_ok (T.b 21 (b := SU.anyB)))
  apply Exists.intro
  apply And.intro
  · exact (SU.psas_cons (SU.psa_of (ps_expr (pe_callSD G_check_names (hr.mono (by decide)) rfl (lm20 T) F_check_names.kp B_check_names .nil (fun σ => passAt (takes_of rfl rfl rfl rfl) σ) (pa_cons (pe_lst (pa_cons (pv 1) (StX.pa_star (pv 4) pa_nil))) pa_nil))))
    (SU.psas_cons (SU.psa_of (ps_if (pt_not (pt_chain op_le op_le (pe_glob (v := .int 3) rfl h_FEWEST_HEARD ⟨_, rfl⟩) (pe_callB (lenK (K := K) rfl) (by rfl) (lm7 T) PySem.boot_len (pa_cons (pv 4) pa_nil)) (pe_glob (v := .int 5) rfl h_MOST_HEARD ⟨_, rfl⟩))) (pss_one (LM.ps_raiseX rfl (takes_of rfl rfl rfl rfl) (lm22 T) (lm23 T).1 (lm23 T).2 G_InvalidNumber_init (hr.mono (by decide)) B_InvalidNumber_init (passes_false rfl rfl) rfl (lm24 T) (pa_cons (pe_callB (lenK (K := K) rfl) (by rfl) (lm7 T) PySem.boot_len (pa_cons (pv 4) pa_nil)) pa_nil))) pss_nil))
    (SU.psas_cons (SU.psa_of (ps_if (PW.pt (pw_or (pt_not (pt_val (pe_callSD G_is_number (hr.mono (by decide)) rfl (lm39 T) F_is_number.kp B_is_number .nil (fun σ => passAt (takes_of rfl rfl rfl rfl) σ) (pa_cons (pv 2) pa_nil)))) (pw_or1 (pt_not (pt_chain op_le op_le pe_int (pv 2) (pe_callB (lenK (K := K) rfl) (by rfl) (lm7 T) PySem.boot_len (pa_cons (pv 4) pa_nil))))))) (pss_one (LM.ps_raiseX rfl (takes_of rfl rfl rfl rfl) (lm22 T) (lm23 T).1 (lm23 T).2 G_InvalidNumber_init (hr.mono (by decide)) B_InvalidNumber_init (passes_false rfl rfl) rfl (lm24 T) (pa_cons (pv 2) pa_nil))) pss_nil))
    (SU.psas_cons (SU.psa_expr (SU.pea_supK (i0 := 0) SupF (SU.supB_ok (X := _) rfl (by decide) (T.b 5 (b := SU.supB "Voter" "Voter" "__init__" (fun K => He.ma K (He.ga K "Part") "__init__")))) rfl G_Part_init (hr.mono (by decide)) KB_Part_init_2_hard (fun σ => passAt (takes_of rfl rfl rfl rfl) σ) (pa_cons (pv 1) pa_nil) (pk_cons (pv 3) pk_nil)))
    (SU.psas_cons (SU.psa_of (ps_fld (pv 0) (pv 2) rfl))
    (SU.psas_one (SU.psa_of (ps_fld (pv 0) (pv 4) rfl))))))))
  · refine SU.body_okS (N := ["self", "name", "least", "hard", "wires", "__class__"]) (m := m_Voter_init) ?_ h
    exact (snd_seq (snd_drop (snd_call (fun _ => RpL.nil) (snd_cons (snd_lst (snd_cons (snd_var 1) (snda_star (snd_var 4) snd_nil))) snd_nil)))
    (snd_seq (snd_ifS (snd_not (snd_testR (snd_chain ops_le ops_le (snd_int 3) (snd_cb cb_lenA (snd_cons (snd_var 4) snd_nil)) (snd_int 5)))) (LM.snd_raise (c := "InvalidNumber") (code := "InvalidNumber") (fs := (["value"] : List PySem.Str)) (by decide) (snd_cons (snd_cb cb_lenA (snd_cons (snd_var 4) snd_nil)) snd_nil)) snd_next)
    (snd_seq (snd_ifS (snd_or (snd_not (snd_test (snd_call (fun _ => RpL.nil) (snd_cons (snd_var 2) snd_nil)))) (snd_not (snd_testR (snd_chain ops_le ops_le (snd_int 1) (snd_var 2) (snd_cb cb_lenA (snd_cons (snd_var 4) snd_nil)))))) (LM.snd_raise (c := "InvalidNumber") (code := "InvalidNumber") (fs := (["value"] : List PySem.Str)) (by decide) (snd_cons (snd_var 2) snd_nil)) snd_next)
    (snd_seq (snd_drop (SU.snd_supK (c := "Voter") (i0 := 0) (n := 3) (na := 1) (nb := 1) (g := g_Part_init) (pm := fun a b => a ++ b) (gW := fun a b => a ++ b) (fun _ _ _ => rfl) (fun _ _ _ _ _ r1 r2 => r1.append r2) (snd_cons (snd_var 1) snd_nil) (snd_cons (snd_var 3) snd_nil)))
    (snd_seq (snd_fldSet (lm40 T) (snd_var 2) (snd_var 0))
    (snd_fldSet (lm41 T) (snd_var 4) (snd_var 0)))))))
theorem okd_Voter_init (T : TT K mg P) : SU.FnKR P w K mg base (L2.CX P w) 5 (He.ma K (He.ga K "Voter") "__init__") [] (SU.spKR K 5 3 g_Voter_init (fun a t _ => a ++ [(V.bl false)] ++ [t])) := by
  obtain ⟨fd_InvalidNumber_init, F_InvalidNumber_init, G_InvalidNumber_init⟩ := ok_InvalidNumber_init (P := P) (w := w) (base := base) T
  have B_InvalidNumber_init := bd_InvalidNumber_init F_InvalidNumber_init
  obtain ⟨fd_Part_init, F_Part_init, G_Part_init⟩ := ok_Part_init (P := P) (w := w) (base := base) T
  obtain ⟨fd_check_names, F_check_names, G_check_names⟩ := ok_check_names (P := P) (w := w) (base := base) T
  have B_check_names := bd_check_names F_check_names
  obtain ⟨fd_is_number, F_is_number, G_is_number⟩ := ok_is_number (P := P) (w := w) (base := base) T
  have B_is_number := bd_is_number F_is_number
  have KB_Part_init_2_hard := SU.FunD.kbn (ps := (["self", "name", "hard"] : List PySem.Str)) F_Part_init 2 (["hard"] : List PySem.Str) (fun us ws => us ++ ws) (fun a b => a.append b) fun _ _ _ _ _ _ us ws h1 h2 => match us, ws, h1, h2 with | [_, _], [_], _, _ => rfl
  obtain ⟨_, h_FEWEST_HEARD⟩ := (lm37 T)
  obtain ⟨_, h_MOST_HEARD⟩ := (lm38 T)
  obtain ⟨fd, F0⟩ := T.says.sup 3
  have F : SU.FunS K "__init__" "Voter.__init__" (defArgs (inClass (top 20) 1)) (defBody (inClass (top 20) 1)) (defScope (inClass (top 20) 1)) [] [("hard", (V.bl false))] FILE (He.ga K "Voter") (He.ma K (He.ga K "Voter") "__init__") (SU.ccOf K (He.ma K (He.ga K "Voter") "__init__")) (SU.cdaOf K (He.ma K (He.ga K "Voter") "__init__")) fd := F0
  obtain ⟨v0, rv, hb⟩ := LM.FunS.bstar (np := 3) (ps := ["self", "name", "least", "hard", "wires"]) (q := ("hard", (V.bl false))) (g := fun us v t => us ++ [v] ++ [t]) F fun _ _ _ _ _ _ _ us rest v h1 => match us, rest, h1 with | [_, _, _], [], _ => ⟨_, _, _, _, _, _, rfl, rfl, rfl⟩ | [_, _, _], _ :: _, _ => ⟨_, _, _, _, _, _, rfl, rfl, rfl⟩
  refine LM.fn_starKD (k := 4) (np := 3) (ps := ["self", "name", "least", "hard", "wires"]) (gV := fun a t => a ++ [(V.bl false)] ++ [t]) (gU := fun us t => us ++ [v0] ++ [t]) (sp := spD K 5 g_Voter_init) F sc_Voter_init StX.cxUp (fun a b => (a.append (.cons rv .nil)).append (.cons b .nil)) hb (fun vs H Q E h => spD_len h) (fun A outer s H vs Q E hr h => ?_)
  have SupF := SU.FunS.supX (CX := L2.CX P w) (w := w) (mg := mg) (base := base) (N := ["self", "name", "least", "hard", "wires", "__class__"]) (A := A) (outer := outer) (s := s) (H := H) (E := E) (P := P) F rfl rfl rfl rfl T.file T.top (lm64 T) (SU.anyB_ok (T.b 21 (b := SU.anyB)))
  apply Exists.intro
  apply And.intro
  · exact (SU.psas_cons (SU.psa_of (ps_expr (pe_callSD G_check_names (hr.mono (by decide)) rfl (lm20 T) F_check_names.kp B_check_names .nil (fun σ => passAt (takes_of rfl rfl rfl rfl) σ) (pa_cons (pe_lst (pa_cons (pv 1) (StX.pa_star (pv 4) pa_nil))) pa_nil))))
    (SU.psas_cons (SU.psa_of (ps_if (pt_not (pt_chain op_le op_le (pe_glob (v := .int 3) rfl h_FEWEST_HEARD ⟨_, rfl⟩) (pe_callB (lenK (K := K) rfl) (by rfl) (lm7 T) PySem.boot_len (pa_cons (pv 4) pa_nil)) (pe_glob (v := .int 5) rfl h_MOST_HEARD ⟨_, rfl⟩))) (pss_one (LM.ps_raiseX rfl (takes_of rfl rfl rfl rfl) (lm22 T) (lm23 T).1 (lm23 T).2 G_InvalidNumber_init (hr.mono (by decide)) B_InvalidNumber_init (passes_false rfl rfl) rfl (lm24 T) (pa_cons (pe_callB (lenK (K := K) rfl) (by rfl) (lm7 T) PySem.boot_len (pa_cons (pv 4) pa_nil)) pa_nil))) pss_nil))
    (SU.psas_cons (SU.psa_of (ps_if (PW.pt (pw_or (pt_not (pt_val (pe_callSD G_is_number (hr.mono (by decide)) rfl (lm39 T) F_is_number.kp B_is_number .nil (fun σ => passAt (takes_of rfl rfl rfl rfl) σ) (pa_cons (pv 2) pa_nil)))) (pw_or1 (pt_not (pt_chain op_le op_le pe_int (pv 2) (pe_callB (lenK (K := K) rfl) (by rfl) (lm7 T) PySem.boot_len (pa_cons (pv 4) pa_nil))))))) (pss_one (LM.ps_raiseX rfl (takes_of rfl rfl rfl rfl) (lm22 T) (lm23 T).1 (lm23 T).2 G_InvalidNumber_init (hr.mono (by decide)) B_InvalidNumber_init (passes_false rfl rfl) rfl (lm24 T) (pa_cons (pv 2) pa_nil))) pss_nil))
    (SU.psas_cons (SU.psa_expr (SU.pea_supK (i0 := 0) SupF (SU.supB_ok (X := _) rfl (by decide) (T.b 5 (b := SU.supB "Voter" "Voter" "__init__" (fun K => He.ma K (He.ga K "Part") "__init__")))) rfl G_Part_init (hr.mono (by decide)) KB_Part_init_2_hard (fun σ => passAt (takes_of rfl rfl rfl rfl) σ) (pa_cons (pv 1) pa_nil) (pk_cons (pv 3) pk_nil)))
    (SU.psas_cons (SU.psa_of (ps_fld (pv 0) (pv 2) rfl))
    (SU.psas_one (SU.psa_of (ps_fld (pv 0) (pv 4) rfl))))))))
  · refine SU.body_okS (N := ["self", "name", "least", "hard", "wires", "__class__"]) (m := m_Voter_init) ?_ h
    exact (snd_seq (snd_drop (snd_call (fun _ => RpL.nil) (snd_cons (snd_lst (snd_cons (snd_var 1) (snda_star (snd_var 4) snd_nil))) snd_nil)))
    (snd_seq (snd_ifS (snd_not (snd_testR (snd_chain ops_le ops_le (snd_int 3) (snd_cb cb_lenA (snd_cons (snd_var 4) snd_nil)) (snd_int 5)))) (LM.snd_raise (c := "InvalidNumber") (code := "InvalidNumber") (fs := (["value"] : List PySem.Str)) (by decide) (snd_cons (snd_cb cb_lenA (snd_cons (snd_var 4) snd_nil)) snd_nil)) snd_next)
    (snd_seq (snd_ifS (snd_or (snd_not (snd_test (snd_call (fun _ => RpL.nil) (snd_cons (snd_var 2) snd_nil)))) (snd_not (snd_testR (snd_chain ops_le ops_le (snd_int 1) (snd_var 2) (snd_cb cb_lenA (snd_cons (snd_var 4) snd_nil)))))) (LM.snd_raise (c := "InvalidNumber") (code := "InvalidNumber") (fs := (["value"] : List PySem.Str)) (by decide) (snd_cons (snd_var 2) snd_nil)) snd_next)
    (snd_seq (snd_drop (SU.snd_supK (c := "Voter") (i0 := 0) (n := 3) (na := 1) (nb := 1) (g := g_Part_init) (pm := fun a b => a ++ b) (gW := fun a b => a ++ b) (fun _ _ _ => rfl) (fun _ _ _ _ _ r1 r2 => r1.append r2) (snd_cons (snd_var 1) snd_nil) (snd_cons (snd_var 3) snd_nil)))
    (snd_seq (snd_fldSet (lm40 T) (snd_var 2) (snd_var 0))
    (snd_fldSet (lm41 T) (snd_var 4) (snd_var 0)))))))

theorem okL_1 (T : TT K mg P) : LM.LamOk P w K mg base 7 (LC 1) (spD K 5 gl_1) := by
  obtain ⟨fd_Voter_init, F_Voter_init, G_Voter_init⟩ := ok_Voter_init (P := P) (w := w) (base := base) T
  have GD_Voter_init := okd_Voter_init (P := P) (w := w) (base := base) T
  refine LM.lam_of (k := 6) (LM.lamSc_by (pn := (["_law_y"] : List PySem.Str)) (by decide +kernel)) (LM.bindL1 (x := "_law_y") rfl fun _ _ _ _ _ _ => ⟨_, rfl, fun _ => rfl⟩) rfl fun A outer s H us Q E f c cl hr h => ?_
  apply Exists.intro
  apply And.intro
  · exact (SU.pe_makeKR (lm35 T) GD_Voter_init (hr.mono (by decide)) rfl (lm36 T) (fun σ => passAt (takes_of rfl rfl rfl rfl) σ) (pa_cons (pv 0) (pa_cons (pv 4) (pa_cons (pv 1) (pa_cons (pv 2) (pa_cons (pv 3) pa_nil))))) pk_nil)
  · refine LM.run_expr (m := ml_1) ?_ h
    exact (SU.snd_makeKR (c := "Voter") (n := 5) (np := 3) (m := 0) (g := g_Voter_init) (pm := fun a t _ => a ++ [(D.bl false)] ++ [t]) (gV := fun a t _ => a ++ [(V.bl false)] ++ [t]) (fun _ _ _ _ _ _ _ r1 r2 r3 => (r1.append (RpL.cons (rp_bl _) RpL.nil)).append (RpL.cons r2 RpL.nil)) (snd_cons (snd_var 0) (snd_cons (snd_var 4) (snd_cons (snd_var 1) (snd_cons (snd_var 2) (snd_cons (snd_var 3) snd_nil))))) snd_nil)

theorem okL_10 (T : TT K mg P) : LM.LamOk P w K mg base 6 (LC 10) (spD K 1 gl_10) := by
  obtain ⟨fd_Part_init, F_Part_init, G_Part_init⟩ := ok_Part_init (P := P) (w := w) (base := base) T
  obtain ⟨ds_Part_init, VD_Part_init, BD_Part_init⟩ := FunD.binds0 (ps := (["self", "name", "hard"] : List PySem.Str)) F_Part_init 2 (by simp) rfl fun _ _ _ _ _ _ us ks h1 h2 => match us, ks, h1, h2 with | [_, _], [_], _, _ => ⟨_, _, _, _, _, _, rfl, rfl, rfl⟩
  refine LM.lam_of (k := 5) (LM.lamSc_by (pn := ([] : List PySem.Str)) (by decide +kernel)) (LM.bindL0 rfl fun _ _ _ _ _ => rfl) rfl fun A outer s H us Q E f c cl hr h => ?_
  apply Exists.intro
  apply And.intro
  · exact (pe_makeSD (lm48 T) G_Part_init (hr.mono (by decide)) rfl (lm49 T) BD_Part_init VD_Part_init (fun σ => passAt (takes_of rfl rfl rfl rfl) σ) (pa_cons (pv 0) pa_nil))
  · refine LM.run_expr (m := ml_10) ?_ h
    exact (snd_make (c := "Part") (n := 3) (g := g_Part_init) (dd := [(D.bl false)]) (fun _ => RpL.cons (rp_bl _) RpL.nil) (snd_cons (snd_var 0) snd_nil))

theorem okL_11 (T : TT K mg P) : LM.LamOk P w K mg base 7 (LC 11) (spD K 4 gl_11) := by
  obtain ⟨fd_Voter_init, F_Voter_init, G_Voter_init⟩ := ok_Voter_init (P := P) (w := w) (base := base) T
  refine LM.lam_of (k := 6) (LM.lamSc_by (pn := (["_law_t"] : List PySem.Str)) (by decide +kernel)) (LM.bindL1 (x := "_law_t") rfl fun _ _ _ _ _ _ => ⟨_, rfl, fun _ => rfl⟩) rfl fun A outer s H us Q E f c cl hr h => ?_
  apply Exists.intro
  apply And.intro
  · exact (SU.pe_makeKR (lm35 T) G_Voter_init (hr.mono (by decide)) rfl (lm36 T) (fun σ => passAt (takes_of rfl rfl rfl rfl) σ) (pa_cons (pv 0) (pa_cons (pv 3) (pa_cons (pv 1) (pa_cons (pv 2) (pa_cons (pv 1) (pa_cons (pv 2) (pa_cons (pv 1) pa_nil))))))) (pk_cons pe_bl pk_nil))
  · refine LM.run_expr (m := ml_11) ?_ h
    exact (SU.snd_makeKR (c := "Voter") (n := 5) (np := 3) (m := 1) (g := g_Voter_init) (pm := fun a t b => a ++ b ++ [t]) (gV := fun a t b => a ++ b ++ [t]) (fun _ _ _ _ _ _ _ r1 r2 r3 => (r1.append r3).append (RpL.cons r2 RpL.nil)) (snd_cons (snd_var 0) (snd_cons (snd_var 3) (snd_cons (snd_var 1) (snd_cons (snd_var 2) (snd_cons (snd_var 1) (snd_cons (snd_var 2) (snd_cons (snd_var 1) snd_nil))))))) (snd_cons (snd_bl true) snd_nil))

theorem okL_12 (T : TT K mg P) : LM.LamOk P w K mg base 7 (LC 12) (spD K 4 gl_12) := by
  obtain ⟨fd_Voter_init, F_Voter_init, G_Voter_init⟩ := ok_Voter_init (P := P) (w := w) (base := base) T
  have GD_Voter_init := okd_Voter_init (P := P) (w := w) (base := base) T
  refine LM.lam_of (k := 6) (LM.lamSc_by (pn := (["_law_s"] : List PySem.Str)) (by decide +kernel)) (LM.bindL1 (x := "_law_s") rfl fun _ _ _ _ _ _ => ⟨_, rfl, fun _ => rfl⟩) rfl fun A outer s H us Q E f c cl hr h => ?_
  apply Exists.intro
  apply And.intro
  · exact (SU.pe_makeKR (lm35 T) GD_Voter_init (hr.mono (by decide)) rfl (lm36 T) (fun σ => passAt (takes_of rfl rfl rfl rfl) σ) (pa_cons (pv 0) (pa_cons (pv 3) (pa_cons (pv 1) (pa_cons (pv 1) (pa_cons (pv 2) pa_nil))))) pk_nil)
  · refine LM.run_expr (m := ml_12) ?_ h
    exact (SU.snd_makeKR (c := "Voter") (n := 5) (np := 3) (m := 0) (g := g_Voter_init) (pm := fun a t _ => a ++ [(D.bl false)] ++ [t]) (gV := fun a t _ => a ++ [(V.bl false)] ++ [t]) (fun _ _ _ _ _ _ _ r1 r2 r3 => (r1.append (RpL.cons (rp_bl _) RpL.nil)).append (RpL.cons r2 RpL.nil)) (snd_cons (snd_var 0) (snd_cons (snd_var 3) (snd_cons (snd_var 1) (snd_cons (snd_var 1) (snd_cons (snd_var 2) snd_nil))))) snd_nil)

theorem okL_13 (T : TT K mg P) : LM.LamOk P w K mg base 7 (LC 13) (spD K 4 gl_13) := by
  obtain ⟨fd_Voter_init, F_Voter_init, G_Voter_init⟩ := ok_Voter_init (P := P) (w := w) (base := base) T
  have GD_Voter_init := okd_Voter_init (P := P) (w := w) (base := base) T
  refine LM.lam_of (k := 6) (LM.lamSc_by (pn := (["_law_r"] : List PySem.Str)) (by decide +kernel)) (LM.bindL1 (x := "_law_r") rfl fun _ _ _ _ _ _ => ⟨_, rfl, fun _ => rfl⟩) rfl fun A outer s H us Q E f c cl hr h => ?_
  apply Exists.intro
  apply And.intro
  · exact (SU.pe_makeKR (lm35 T) GD_Voter_init (hr.mono (by decide)) rfl (lm36 T) (fun σ => passAt (takes_of rfl rfl rfl rfl) σ) (pa_cons (pv 0) (pa_cons (pv 3) (pa_cons (pv 1) (pa_cons (pv 1) (pa_cons (pv 1) (pa_cons (pv 2) (pa_cons (pv 2) (pa_cons (pv 2) pa_nil)))))))) pk_nil)
  · refine LM.run_expr (m := ml_13) ?_ h
    exact (SU.snd_makeKR (c := "Voter") (n := 5) (np := 3) (m := 0) (g := g_Voter_init) (pm := fun a t _ => a ++ [(D.bl false)] ++ [t]) (gV := fun a t _ => a ++ [(V.bl false)] ++ [t]) (fun _ _ _ _ _ _ _ r1 r2 r3 => (r1.append (RpL.cons (rp_bl _) RpL.nil)).append (RpL.cons r2 RpL.nil)) (snd_cons (snd_var 0) (snd_cons (snd_var 3) (snd_cons (snd_var 1) (snd_cons (snd_var 1) (snd_cons (snd_var 1) (snd_cons (snd_var 2) (snd_cons (snd_var 2) (snd_cons (snd_var 2) snd_nil)))))))) snd_nil)

theorem okL_14 (T : TT K mg P) : LM.LamOk P w K mg base 7 (LC 14) (spD K 2 gl_14) := by
  obtain ⟨fd_Voter_init, F_Voter_init, G_Voter_init⟩ := ok_Voter_init (P := P) (w := w) (base := base) T
  have GD_Voter_init := okd_Voter_init (P := P) (w := w) (base := base) T
  refine LM.lam_of (k := 6) (LM.lamSc_by (pn := (["_law_q"] : List PySem.Str)) (by decide +kernel)) (LM.bindL1 (x := "_law_q") rfl fun _ _ _ _ _ _ => ⟨_, rfl, fun _ => rfl⟩) rfl fun A outer s H us Q E f c cl hr h => ?_
  apply Exists.intro
  apply And.intro
  · exact (SU.pe_makeKR (lm35 T) GD_Voter_init (hr.mono (by decide)) rfl (lm36 T) (fun σ => passAt (takes_of rfl rfl rfl rfl) σ) (pa_cons (pv 0) (pa_cons (pv 1) pa_nil)) pk_nil)
  · refine LM.run_expr (m := ml_14) ?_ h
    exact (SU.snd_makeKR (c := "Voter") (n := 5) (np := 3) (m := 0) (g := g_Voter_init) (pm := fun a t _ => a ++ [(D.bl false)] ++ [t]) (gV := fun a t _ => a ++ [(V.bl false)] ++ [t]) (fun _ _ _ _ _ _ _ r1 r2 r3 => (r1.append (RpL.cons (rp_bl _) RpL.nil)).append (RpL.cons r2 RpL.nil)) (snd_cons (snd_var 0) (snd_cons (snd_var 1) snd_nil)) snd_nil)

theorem okL_15 (T : TT K mg P) : LM.LamOk P w K mg base 7 (LC 15) (spD K 4 gl_15) := by
  obtain ⟨fd_Voter_init, F_Voter_init, G_Voter_init⟩ := ok_Voter_init (P := P) (w := w) (base := base) T
  have GD_Voter_init := okd_Voter_init (P := P) (w := w) (base := base) T
  refine LM.lam_of (k := 6) (LM.lamSc_by (pn := (["_law_p"] : List PySem.Str)) (by decide +kernel)) (LM.bindL1 (x := "_law_p") rfl fun _ _ _ _ _ _ => ⟨_, rfl, fun _ => rfl⟩) rfl fun A outer s H us Q E f c cl hr h => ?_
  apply Exists.intro
  apply And.intro
  · exact (SU.pe_makeKR (lm35 T) GD_Voter_init (hr.mono (by decide)) rfl (lm36 T) (fun σ => passAt (takes_of rfl rfl rfl rfl) σ) (pa_cons (pv 0) (pa_cons (pv 3) (pa_cons (pv 1) (pa_cons (pv 2) pa_nil)))) pk_nil)
  · refine LM.run_expr (m := ml_15) ?_ h
    exact (SU.snd_makeKR (c := "Voter") (n := 5) (np := 3) (m := 0) (g := g_Voter_init) (pm := fun a t _ => a ++ [(D.bl false)] ++ [t]) (gV := fun a t _ => a ++ [(V.bl false)] ++ [t]) (fun _ _ _ _ _ _ _ r1 r2 r3 => (r1.append (RpL.cons (rp_bl _) RpL.nil)).append (RpL.cons r2 RpL.nil)) (snd_cons (snd_var 0) (snd_cons (snd_var 3) (snd_cons (snd_var 1) (snd_cons (snd_var 2) snd_nil)))) snd_nil)

theorem okL_16 (T : TT K mg P) : LM.LamOk P w K mg base 7 (LC 16) (spD K 4 gl_16) := by
  obtain ⟨fd_Box_init, F_Box_init, G_Box_init⟩ := ok_Box_init (P := P) (w := w) (base := base) T
  have GD_Box_init := okd_Box_init (P := P) (w := w) (base := base) T
  refine LM.lam_of (k := 6) (LM.lamSc_by (pn := ([] : List PySem.Str)) (by decide +kernel)) (LM.bindL0 rfl fun _ _ _ _ _ => rfl) rfl fun A outer s H us Q E f c cl hr h => ?_
  apply Exists.intro
  apply And.intro
  · exact (SU.pe_makeKR (lm18 T) GD_Box_init (hr.mono (by decide)) rfl (lm19 T) (fun σ => passAt (takes_of rfl rfl rfl rfl) σ) (pa_cons (pv 0) (pa_cons (pv 1) (pa_cons (pv 3) (pa_cons (pv 3) (pa_cons (pv 3) (pa_cons (pv 2) pa_nil)))))) pk_nil)
  · refine LM.run_expr (m := ml_16) ?_ h
    exact (SU.snd_makeKR (c := "Box") (n := 5) (np := 3) (m := 0) (g := g_Box_init) (pm := fun a t _ => a ++ [(D.bl false)] ++ [t]) (gV := fun a t _ => a ++ [(V.bl false)] ++ [t]) (fun _ _ _ _ _ _ _ r1 r2 r3 => (r1.append (RpL.cons (rp_bl _) RpL.nil)).append (RpL.cons r2 RpL.nil)) (snd_cons (snd_var 0) (snd_cons (snd_var 1) (snd_cons (snd_var 3) (snd_cons (snd_var 3) (snd_cons (snd_var 3) (snd_cons (snd_var 2) snd_nil)))))) snd_nil)

theorem okL_2 (T : TT K mg P) : LM.LamOk P w K mg base 7 (LC 2) (spD K 3 gl_2) := by
  obtain ⟨fd_Voter_init, F_Voter_init, G_Voter_init⟩ := ok_Voter_init (P := P) (w := w) (base := base) T
  have GD_Voter_init := okd_Voter_init (P := P) (w := w) (base := base) T
  refine LM.lam_of (k := 6) (LM.lamSc_by (pn := (["_law_w"] : List PySem.Str)) (by decide +kernel)) (LM.bindL1 (x := "_law_w") rfl fun _ _ _ _ _ _ => ⟨_, rfl, fun _ => rfl⟩) rfl fun A outer s H us Q E f c cl hr h => ?_
  apply Exists.intro
  apply And.intro
  · exact (SU.pe_makeKR (lm35 T) GD_Voter_init (hr.mono (by decide)) rfl (lm36 T) (fun σ => passAt (takes_of rfl rfl rfl rfl) σ) (pa_cons (pv 0) (pa_cons (pv 2) (pa_cons (pv 1) pa_nil))) pk_nil)
  · refine LM.run_expr (m := ml_2) ?_ h
    exact (SU.snd_makeKR (c := "Voter") (n := 5) (np := 3) (m := 0) (g := g_Voter_init) (pm := fun a t _ => a ++ [(D.bl false)] ++ [t]) (gV := fun a t _ => a ++ [(V.bl false)] ++ [t]) (fun _ _ _ _ _ _ _ r1 r2 r3 => (r1.append (RpL.cons (rp_bl _) RpL.nil)).append (RpL.cons r2 RpL.nil)) (snd_cons (snd_var 0) (snd_cons (snd_var 2) (snd_cons (snd_var 1) snd_nil))) snd_nil)

theorem sc_Store_init : NdefX.NScope ["self", "name", "content", "wire", "hard", "__class__"] ["self", "name", "content", "wire", "hard"] ["__class__"] (defScope (inClass (top 19) 0)) := NdefX.nscope_by (by decide +kernel)
theorem ok_Store_init (T : TT K mg P) : ∃ fd : FuncData, SU.FunS K "__init__" "Store.__init__" (defArgs (inClass (top 19) 0)) (defBody (inClass (top 19) 0)) (defScope (inClass (top 19) 0)) [] [("hard", (V.bl false))] FILE (He.ga K "Store") (He.ma K (He.ga K "Store") "__init__") (SU.ccOf K (He.ma K (He.ga K "Store") "__init__")) (SU.cdaOf K (He.ma K (He.ga K "Store") "__init__")) fd ∧ FnOk P w K mg base (L2.CX P w) 5 (He.ma K (He.ga K "Store") "__init__") fd ["self", "name", "content", "wire", "hard"] (spD K 5 g_Store_init) := by
  obtain ⟨fd_Part_init, F_Part_init, G_Part_init⟩ := ok_Part_init (P := P) (w := w) (base := base) T
  obtain ⟨fd_check_names, F_check_names, G_check_names⟩ := ok_check_names (P := P) (w := w) (base := base) T
  have B_check_names := bd_check_names F_check_names
  have KB_Part_init_2_hard := SU.FunD.kbn (ps := (["self", "name", "hard"] : List PySem.Str)) F_Part_init 2 (["hard"] : List PySem.Str) (fun us ws => us ++ ws) (fun a b => a.append b) fun _ _ _ _ _ _ us ws h1 h2 => match us, ws, h1, h2 with | [_, _], [_], _, _ => rfl
  obtain ⟨fd, F0⟩ := T.says.sup 4
  have F : SU.FunS K "__init__" "Store.__init__" (defArgs (inClass (top 19) 0)) (defBody (inClass (top 19) 0)) (defScope (inClass (top 19) 0)) [] [("hard", (V.bl false))] FILE (He.ga K "Store") (He.ma K (He.ga K "Store") "__init__") (SU.ccOf K (He.ma K (He.ga K "Store") "__init__")) (SU.cdaOf K (He.ma K (He.ga K "Store") "__init__")) fd := F0
  refine ⟨fd, F, SU.fn_ofS (k := 4) F sc_Store_init (fun vs H Q E h => spD_len h) (fun A outer s H vs Q E hr h => ?_)⟩
  have SupF := SU.FunS.supX (CX := L2.CX P w) (w := w) (mg := mg) (base := base) (N := ["self", "name", "content", "wire", "hard", "__class__"]) (A := A) (outer := outer) (s := s) (H := H) (E := E) (P := P) F rfl rfl rfl rfl T.file T.top (lm64 T) (SU.anyB_ok (T.b 21 (b := SU.anyB)))
  apply Exists.intro
  apply And.intro
  · exact (SU.psas_cons (SU.psa_of (ps_expr (pe_callSD G_check_names (hr.mono (by decide)) rfl (lm20 T) F_check_names.kp B_check_names .nil (fun σ => passAt (takes_of rfl rfl rfl rfl) σ) (pa_cons (pe_lst (pa_cons (pv 1) (pa_cons (pv 2) (pa_cons (pv 3) pa_nil)))) pa_nil))))
    (SU.psas_cons (SU.psa_expr (SU.pea_supK (i0 := 0) SupF (SU.supB_ok (X := _) rfl (by decide) (T.b 6 (b := SU.supB "Store" "Store" "__init__" (fun K => He.ma K (He.ga K "Part") "__init__")))) rfl G_Part_init (hr.mono (by decide)) KB_Part_init_2_hard (fun σ => passAt (takes_of rfl rfl rfl rfl) σ) (pa_cons (pv 1) pa_nil) (pk_cons (pv 4) pk_nil)))
    (SU.psas_cons (SU.psa_of (ps_fld (pv 0) (pv 2) rfl))
    (SU.psas_one (SU.psa_of (ps_fld (pv 0) (pe_tup (pa_cons (pv 3) pa_nil)) rfl))))))
  · refine SU.body_okS (N := ["self", "name", "content", "wire", "hard", "__class__"]) (m := m_Store_init) ?_ h
    exact (snd_seq (snd_drop (snd_call (fun _ => RpL.nil) (snd_cons (snd_lst (snd_cons (snd_var 1) (snd_cons (snd_var 2) (snd_cons (snd_var 3) snd_nil)))) snd_nil)))
    (snd_seq (snd_drop (SU.snd_supK (c := "Store") (i0 := 0) (n := 3) (na := 1) (nb := 1) (g := g_Part_init) (pm := fun a b => a ++ b) (gW := fun a b => a ++ b) (fun _ _ _ => rfl) (fun _ _ _ _ _ r1 r2 => r1.append r2) (snd_cons (snd_var 1) snd_nil) (snd_cons (snd_var 4) snd_nil)))
    (snd_seq (snd_fldSet (lm44 T) (snd_var 2) (snd_var 0))
    (snd_fldSet (lm45 T) (snd_tup (snd_cons (snd_var 3) snd_nil)) (snd_var 0)))))

theorem okL_3 (T : TT K mg P) : LM.LamOk P w K mg base 7 (LC 3) (spD K 3 gl_3) := by
  obtain ⟨fd_Store_init, F_Store_init, G_Store_init⟩ := ok_Store_init (P := P) (w := w) (base := base) T
  obtain ⟨mv_KQ_Store_init_1_name_content_wire, KQ_Store_init_1_name_content_wire⟩ := LM.FunS.kbinds0 (ps := (["self", "name", "content", "wire", "hard"] : List PySem.Str)) F_Store_init 1 (["name", "content", "wire"] : List PySem.Str) [("hard", (V.bl false))] (fun us mv ws => LM.permL [0, 2, 3, 4, 1] (us ++ mv ++ ws)) (by simp) (fun q h => by simp at h ⊢ <;> simp [h]) (fun r1 r2 r3 => LM.permL_vals ((r1.append r2).append r3) [0, 2, 3, 4, 1]) fun _ _ _ _ _ _ _ us mv ws h1 h2 h3 => match us, mv, ws, h1, h2, h3 with | [_], [_], [_, _, _], _, _, _ => ⟨_, _, _, _, _, _, rfl, rfl, rfl⟩
  refine LM.lam_of (k := 6) (LM.lamSc_by (pn := (["_law_v"] : List PySem.Str)) (by decide +kernel)) (LM.bindL1 (x := "_law_v") rfl fun _ _ _ _ _ _ => ⟨_, rfl, fun _ => rfl⟩) rfl fun A outer s H us Q E f c cl hr h => ?_
  apply Exists.intro
  apply And.intro
  · exact (pe_makeNS0 (lm42 T) G_Store_init (hr.mono (by decide)) rfl (lm43 T) KQ_Store_init_1_name_content_wire (fun σ => passAt (takes_of rfl rfl rfl rfl) σ) (pk_cons (pv 0) (pk_cons (pv 1) (pk_cons (pv 2) pk_nil))))
  · refine LM.run_expr (m := ml_3) ?_ h
    exact (snd_makeK (c := "Store") (n := 5) (a := 0) (b := 3) (g := g_Store_init) (pm := (fun a b => LM.permL [1, 2, 3, 0] (a ++ [(D.bl false)] ++ b))) (gW := (fun a b => LM.permL [1, 2, 3, 0] (a ++ [(V.bl false)] ++ b))) (fun _ _ _ => by (try simp only [List.map_nil, List.append_nil]) <;> rfl) (fun _ _ _ _ _ r1 r2 => LM.permL_rpl ((r1.append (RpL.cons (rp_bl _) RpL.nil)).append r2) _) snd_nil (snd_cons (snd_var 0) (snd_cons (snd_var 1) (snd_cons (snd_var 2) snd_nil))))

theorem okL_4 (T : TT K mg P) : LM.LamOk P w K mg base 7 (LC 4) (spD K 3 gl_4) := by
  obtain ⟨fd_Store_init, F_Store_init, G_Store_init⟩ := ok_Store_init (P := P) (w := w) (base := base) T
  obtain ⟨ds_Store_init, VD_Store_init, BD_Store_init⟩ := LM.FunS.binds0 (ps := (["self", "name", "content", "wire", "hard"] : List PySem.Str)) F_Store_init 4 (by simp) rfl fun _ _ _ _ _ _ _ us ks h1 h2 => match us, ks, h1, h2 with | [_, _, _, _], [_], _, _ => ⟨_, _, _, _, _, _, rfl, rfl, rfl⟩
  refine LM.lam_of (k := 6) (LM.lamSc_by (pn := (["_law_u"] : List PySem.Str)) (by decide +kernel)) (LM.bindL1 (x := "_law_u") rfl fun _ _ _ _ _ _ => ⟨_, rfl, fun _ => rfl⟩) rfl fun A outer s H us Q E f c cl hr h => ?_
  apply Exists.intro
  apply And.intro
  · exact (pe_makeSD (lm42 T) G_Store_init (hr.mono (by decide)) rfl (lm43 T) BD_Store_init VD_Store_init (fun σ => passAt (takes_of rfl rfl rfl rfl) σ) (pa_cons (pv 0) (pa_cons (pv 1) (pa_cons (pv 2) pa_nil))))
  · refine LM.run_expr (m := ml_4) ?_ h
    exact (snd_make (c := "Store") (n := 5) (g := g_Store_init) (dd := [(D.bl false)]) (fun _ => RpL.cons (rp_bl _) RpL.nil) (snd_cons (snd_var 0) (snd_cons (snd_var 1) (snd_cons (snd_var 2) snd_nil))))

theorem okL_5 (T : TT K mg P) : LM.LamOk P w K mg base 7 (LC 5) (spD K 2 gl_5) := by
  obtain ⟨fd_Store_init, F_Store_init, G_Store_init⟩ := ok_Store_init (P := P) (w := w) (base := base) T
  obtain ⟨ds_Store_init, VD_Store_init, BD_Store_init⟩ := LM.FunS.binds0 (ps := (["self", "name", "content", "wire", "hard"] : List PySem.Str)) F_Store_init 4 (by simp) rfl fun _ _ _ _ _ _ _ us ks h1 h2 => match us, ks, h1, h2 with | [_, _, _, _], [_], _, _ => ⟨_, _, _, _, _, _, rfl, rfl, rfl⟩
  refine LM.lam_of (k := 6) (LM.lamSc_by (pn := (["_law_t"] : List PySem.Str)) (by decide +kernel)) (LM.bindL1 (x := "_law_t") rfl fun _ _ _ _ _ _ => ⟨_, rfl, fun _ => rfl⟩) rfl fun A outer s H us Q E f c cl hr h => ?_
  apply Exists.intro
  apply And.intro
  · exact (pe_makeSD (lm42 T) G_Store_init (hr.mono (by decide)) rfl (lm43 T) BD_Store_init VD_Store_init (fun σ => passAt (takes_of rfl rfl rfl rfl) σ) (pa_cons (pv 0) (pa_cons (pv 1) (pa_cons (pv 1) pa_nil))))
  · refine LM.run_expr (m := ml_5) ?_ h
    exact (snd_make (c := "Store") (n := 5) (g := g_Store_init) (dd := [(D.bl false)]) (fun _ => RpL.cons (rp_bl _) RpL.nil) (snd_cons (snd_var 0) (snd_cons (snd_var 1) (snd_cons (snd_var 1) snd_nil))))

theorem okL_6 (T : TT K mg P) : LM.LamOk P w K mg base 7 (LC 6) (spD K 5 gl_6) := by
  obtain ⟨fd_Box_init, F_Box_init, G_Box_init⟩ := ok_Box_init (P := P) (w := w) (base := base) T
  have GD_Box_init := okd_Box_init (P := P) (w := w) (base := base) T
  refine LM.lam_of (k := 6) (LM.lamSc_by (pn := (["_law_s"] : List PySem.Str)) (by decide +kernel)) (LM.bindL1 (x := "_law_s") rfl fun _ _ _ _ _ _ => ⟨_, rfl, fun _ => rfl⟩) rfl fun A outer s H us Q E f c cl hr h => ?_
  apply Exists.intro
  apply And.intro
  · exact (SU.pe_makeKR (lm18 T) GD_Box_init (hr.mono (by decide)) rfl (lm19 T) (fun σ => passAt (takes_of rfl rfl rfl rfl) σ) (pa_cons (pv 0) (pa_cons (pv 1) (pa_cons (pv 2) (pa_cons (pv 3) (pa_cons (pv 4) pa_nil))))) pk_nil)
  · refine LM.run_expr (m := ml_6) ?_ h
    exact (SU.snd_makeKR (c := "Box") (n := 5) (np := 3) (m := 0) (g := g_Box_init) (pm := fun a t _ => a ++ [(D.bl false)] ++ [t]) (gV := fun a t _ => a ++ [(V.bl false)] ++ [t]) (fun _ _ _ _ _ _ _ r1 r2 r3 => (r1.append (RpL.cons (rp_bl _) RpL.nil)).append (RpL.cons r2 RpL.nil)) (snd_cons (snd_var 0) (snd_cons (snd_var 1) (snd_cons (snd_var 2) (snd_cons (snd_var 3) (snd_cons (snd_var 4) snd_nil))))) snd_nil)

theorem okL_7 (T : TT K mg P) : LM.LamOk P w K mg base 7 (LC 7) (spD K 3 gl_7) := by
  obtain ⟨fd_Box_init, F_Box_init, G_Box_init⟩ := ok_Box_init (P := P) (w := w) (base := base) T
  have GD_Box_init := okd_Box_init (P := P) (w := w) (base := base) T
  refine LM.lam_of (k := 6) (LM.lamSc_by (pn := (["_law_r"] : List PySem.Str)) (by decide +kernel)) (LM.bindL1 (x := "_law_r") rfl fun _ _ _ _ _ _ => ⟨_, rfl, fun _ => rfl⟩) rfl fun A outer s H us Q E f c cl hr h => ?_
  apply Exists.intro
  apply And.intro
  · exact (SU.pe_makeKR (lm18 T) GD_Box_init (hr.mono (by decide)) rfl (lm19 T) (fun σ => passAt (takes_of rfl rfl rfl rfl) σ) (pa_cons (pv 0) (pa_cons (pv 1) (pa_cons (pv 2) pa_nil))) pk_nil)
  · refine LM.run_expr (m := ml_7) ?_ h
    exact (SU.snd_makeKR (c := "Box") (n := 5) (np := 3) (m := 0) (g := g_Box_init) (pm := fun a t _ => a ++ [(D.bl false)] ++ [t]) (gV := fun a t _ => a ++ [(V.bl false)] ++ [t]) (fun _ _ _ _ _ _ _ r1 r2 r3 => (r1.append (RpL.cons (rp_bl _) RpL.nil)).append (RpL.cons r2 RpL.nil)) (snd_cons (snd_var 0) (snd_cons (snd_var 1) (snd_cons (snd_var 2) snd_nil))) snd_nil)

theorem okL_8 (T : TT K mg P) : LM.LamOk P w K mg base 7 (LC 8) (spD K 2 gl_8) := by
  obtain ⟨fd_Box_init, F_Box_init, G_Box_init⟩ := ok_Box_init (P := P) (w := w) (base := base) T
  have GD_Box_init := okd_Box_init (P := P) (w := w) (base := base) T
  refine LM.lam_of (k := 6) (LM.lamSc_by (pn := (["_law_q"] : List PySem.Str)) (by decide +kernel)) (LM.bindL1 (x := "_law_q") rfl fun _ _ _ _ _ _ => ⟨_, rfl, fun _ => rfl⟩) rfl fun A outer s H us Q E f c cl hr h => ?_
  apply Exists.intro
  apply And.intro
  · exact (SU.pe_makeKR (lm18 T) GD_Box_init (hr.mono (by decide)) rfl (lm19 T) (fun σ => passAt (takes_of rfl rfl rfl rfl) σ) (pa_cons (pv 0) (pa_cons (pv 1) pa_nil)) pk_nil)
  · refine LM.run_expr (m := ml_8) ?_ h
    exact (SU.snd_makeKR (c := "Box") (n := 5) (np := 3) (m := 0) (g := g_Box_init) (pm := fun a t _ => a ++ [(D.bl false)] ++ [t]) (gV := fun a t _ => a ++ [(V.bl false)] ++ [t]) (fun _ _ _ _ _ _ _ r1 r2 r3 => (r1.append (RpL.cons (rp_bl _) RpL.nil)).append (RpL.cons r2 RpL.nil)) (snd_cons (snd_var 0) (snd_cons (snd_var 1) snd_nil)) snd_nil)

theorem sc_Source_init : NdefX.NScope ["self", "name", "__class__"] ["self", "name"] ["__class__"] (defScope (inClass (top 17) 0)) := NdefX.nscope_by (by decide +kernel)
theorem bd_Source_init {fd : FuncData} (F : SU.FunS K "__init__" "Source.__init__" (defArgs (inClass (top 17) 0)) (defBody (inClass (top 17) 0)) (defScope (inClass (top 17) 0)) [] [] FILE (He.ga K "Source") (He.ma K (He.ga K "Source") "__init__") (SU.ccOf K (He.ma K (He.ga K "Source") "__init__")) (SU.cdaOf K (He.ma K (He.ga K "Source") "__init__")) fd) : Binds K fd ["self", "name"] [] :=
  SU.FunS.bindsN F fun _ _ _ _ _ _ _ us hl => match us, hl with | [_, _], _ => rfl
theorem ok_Source_init (T : TT K mg P) : ∃ fd : FuncData, SU.FunS K "__init__" "Source.__init__" (defArgs (inClass (top 17) 0)) (defBody (inClass (top 17) 0)) (defScope (inClass (top 17) 0)) [] [] FILE (He.ga K "Source") (He.ma K (He.ga K "Source") "__init__") (SU.ccOf K (He.ma K (He.ga K "Source") "__init__")) (SU.cdaOf K (He.ma K (He.ga K "Source") "__init__")) fd ∧ FnOk P w K mg base (L2.CX P w) 5 (He.ma K (He.ga K "Source") "__init__") fd ["self", "name"] (spD K 2 g_Source_init) := by
  obtain ⟨fd_Part_init, F_Part_init, G_Part_init⟩ := ok_Part_init (P := P) (w := w) (base := base) T
  obtain ⟨ds_Part_init, VD_Part_init, BD_Part_init⟩ := FunD.binds0 (ps := (["self", "name", "hard"] : List PySem.Str)) F_Part_init 2 (by simp) rfl fun _ _ _ _ _ _ us ks h1 h2 => match us, ks, h1, h2 with | [_, _], [_], _, _ => ⟨_, _, _, _, _, _, rfl, rfl, rfl⟩
  obtain ⟨fd, F0⟩ := T.says.sup 5
  have F : SU.FunS K "__init__" "Source.__init__" (defArgs (inClass (top 17) 0)) (defBody (inClass (top 17) 0)) (defScope (inClass (top 17) 0)) [] [] FILE (He.ga K "Source") (He.ma K (He.ga K "Source") "__init__") (SU.ccOf K (He.ma K (He.ga K "Source") "__init__")) (SU.cdaOf K (He.ma K (He.ga K "Source") "__init__")) fd := F0
  refine ⟨fd, F, SU.fn_ofS (k := 4) F sc_Source_init (fun vs H Q E h => spD_len h) (fun A outer s H vs Q E hr h => ?_)⟩
  have SupF := SU.FunS.supX (CX := L2.CX P w) (w := w) (mg := mg) (base := base) (N := ["self", "name", "__class__"]) (A := A) (outer := outer) (s := s) (H := H) (E := E) (P := P) F rfl rfl rfl rfl T.file T.top (lm64 T) (SU.anyB_ok (T.b 21 (b := SU.anyB)))
  apply Exists.intro
  apply And.intro
  · exact (SU.psas_one (SU.psa_expr (SU.pea_sup (i0 := 0) SupF (SU.supB_ok (X := _) rfl (by decide) (T.b 7 (b := SU.supB "Source" "Source" "__init__" (fun K => He.ma K (He.ga K "Part") "__init__")))) rfl G_Part_init (hr.mono (by decide)) BD_Part_init VD_Part_init (fun σ => passAt (takes_of rfl rfl rfl rfl) σ) (pa_cons (pv 1) pa_nil))))
  · refine SU.body_okS (N := ["self", "name", "__class__"]) (m := m_Source_init) ?_ h
    exact (snd_drop (SU.snd_sup (c := "Source") (i0 := 0) (n := 3) (g := g_Part_init) (dd := [(D.bl false)]) (fun _ => RpL.cons (rp_bl _) RpL.nil) (snd_cons (snd_var 1) snd_nil)))

theorem okL_9 (T : TT K mg P) : LM.LamOk P w K mg base 7 (LC 9) (spD K 1 gl_9) := by
  obtain ⟨fd_Source_init, F_Source_init, G_Source_init⟩ := ok_Source_init (P := P) (w := w) (base := base) T
  have B_Source_init := bd_Source_init F_Source_init
  refine LM.lam_of (k := 6) (LM.lamSc_by (pn := (["_law_p"] : List PySem.Str)) (by decide +kernel)) (LM.bindL1 (x := "_law_p") rfl fun _ _ _ _ _ _ => ⟨_, rfl, fun _ => rfl⟩) rfl fun A outer s H us Q E f c cl hr h => ?_
  apply Exists.intro
  apply And.intro
  · exact (pe_makeSD (lm46 T) G_Source_init (hr.mono (by decide)) rfl (lm47 T) B_Source_init .nil (fun σ => passAt (takes_of rfl rfl rfl rfl) σ) (pa_cons (pv 0) pa_nil))
  · refine LM.run_expr (m := ml_9) ?_ h
    exact (snd_make (c := "Source") (n := 2) (g := g_Source_init) (dd := []) (fun _ => RpL.nil) (snd_cons (snd_var 0) snd_nil))

theorem sc_law_field : FnScope ["_law_e"] ["_law_e"] (defScope (top 26)) := ⟨rfl, rfl, rfl, by decide +kernel, rfl, by decide +kernel, by decide +kernel⟩
theorem bd_law_field {fd : FuncData} (F : FunD K "_law_field" "_law_field" (defArgs (top 26)) (defBody (top 26)) (defScope (top 26)) [] [] (He.ga K "_law_field") fd) : Binds K fd ["_law_e"] [] :=
  FunD.bindsN F fun _ _ _ _ _ _ us hl => match us, hl with | [_], _ => rfl
theorem ok_law_field (T : TT K mg P) : ∃ fd : FuncData, FunD K "_law_field" "_law_field" (defArgs (top 26)) (defBody (top 26)) (defScope (top 26)) [] [] (He.ga K "_law_field") fd ∧ LM.FnQ P w K mg base 1 (He.ga K "_law_field") fd ["_law_e"] (LM.spF K g_law_field) := by
  obtain ⟨fd, F0⟩ := T.t.def_ 9
  have F : FunD K "_law_field" "_law_field" (defArgs (top 26)) (defBody (top 26)) (defScope (top 26)) [] [] (He.ga K "_law_field") fd := F0
  refine ⟨fd, F, LM.fn_ofQ (k := 0) F sc_law_field (fun vs H Q E h => LM.spF_len h) (fun cdv A outer s H vs Q E hr h => ?_)⟩
  apply Exists.intro
  apply And.intro
  · exact (pss_cons (ps_if (pt_cmpR (inA3K (K := K) rfl hr.deep65) (LM.pe_cau (i := 0) (lm50 T) rfl (Or.inl rfl)) (pe_tup (pa_cons pe_str (pa_cons pe_str (pa_cons pe_str (pa_cons pe_str (pa_cons pe_str pa_nil)))))) (by rfl)) (pss_one (ps_ret (pe_tup (pa_cons (LM.pe_cau (i := 0) (lm55 T) rfl (Or.inl rfl)) pa_nil)))) pss_nil)
    (pss_cons (ps_if (pt_cmpR (inA3K (K := K) rfl hr.deep65) (LM.pe_cau (i := 0) (lm50 T) rfl (Or.inl rfl)) (pe_tup (pa_cons pe_str (pa_cons pe_str (pa_cons pe_str (pa_cons pe_str (pa_cons pe_str pa_nil)))))) (by rfl)) (pss_one (ps_ret (pe_tup (pa_cons (LM.pe_cau (i := 0) (lm56 T) rfl (Or.inl rfl)) pa_nil)))) pss_nil)
    (pss_cons (ps_if (pt_cmpR (inA3K (K := K) rfl hr.deep65) (LM.pe_cau (i := 0) (lm50 T) rfl (Or.inl rfl)) (pe_tup (pa_cons pe_str (pa_cons pe_str pa_nil))) (by rfl)) (pss_one (ps_ret (pe_tup (pa_cons (LM.pe_cau (i := 0) (lm57 T) rfl (Or.inl rfl)) pa_nil)))) pss_nil)
    (pss_cons (ps_if (pt_cmpR (eqK (K := K) rfl hr.units) (LM.pe_cau (i := 0) (lm50 T) rfl (Or.inl rfl)) pe_str (nomark _)) (pss_one (ps_ret (pe_tup (pa_cons (LM.pe_cau (i := 0) (lm59 T) rfl (Or.inl rfl)) (pa_cons (LM.pe_cau (i := 0) (lm58 T) rfl (Or.inl rfl)) pa_nil))))) pss_nil)
    (pss_cons (ps_if (pt_cmpR (eqK (K := K) rfl hr.units) (LM.pe_cau (i := 0) (lm50 T) rfl (Or.inl rfl)) pe_str (nomark _)) (pss_one (ps_ret (pe_tup (pa_cons (LM.pe_cau (i := 0) (lm60 T) rfl (Or.inl rfl)) pa_nil)))) pss_nil)
    (pss_cons (ps_if (pt_cmpR (eqK (K := K) rfl hr.units) (LM.pe_cau (i := 0) (lm50 T) rfl (Or.inl rfl)) pe_str (nomark _)) (pss_one (ps_ret (pe_tup (pa_cons (LM.pe_cau (i := 0) (lm61 T) rfl (Or.inl rfl)) pa_nil)))) pss_nil)
    (pss_cons (ps_if (pt_cmpR (eqK (K := K) rfl hr.units) (LM.pe_cau (i := 0) (lm50 T) rfl (Or.inl rfl)) pe_str (nomark _)) (pss_one (ps_ret (pe_tup (pa_cons (LM.pe_cau (i := 0) (lm62 T) rfl (Or.inl rfl)) pa_nil)))) pss_nil)
    (pss_cons (ps_if (pt_cmpR (eqK (K := K) rfl hr.units) (LM.pe_cau (i := 0) (lm50 T) rfl (Or.inl rfl)) pe_str (nomark _)) (pss_one (ps_ret (pe_tup (pa_cons (LM.pe_cau (i := 0) (lm63 T) rfl (Or.inl rfl)) pa_nil)))) pss_nil)
    (pss_one (ps_ret (pe_ifExp (pt_cmpR (eqK (K := K) rfl hr.units) (LM.pe_cau (i := 0) (lm50 T) rfl (Or.inl rfl)) pe_str (nomark _)) (pe_tup (pa_cons (LM.pe_cau (i := 0) (lm58 T) rfl (Or.inl rfl)) pa_nil)) (pe_tup pa_nil))))))))))))
  · refine LM.body_okF (N := ["_law_e"]) (m := m_law_field) ?_ h (by decide)
    exact (snd_seq (snd_ifS (snd_testR (snd_op ops_in3 LM.snd_cau (snd_tup (snd_cons (snd_str "InvalidName") (snd_cons (snd_str "InvalidNumber") (snd_cons (snd_str "InvalidLimit") (snd_cons (snd_str "DuplicateName") (snd_cons (snd_str "UnknownName") snd_nil)))))))) (snd_ret (snd_tup (snd_cons LM.snd_cau snd_nil))) snd_next)
    (snd_seq (snd_ifS (snd_testR (snd_op ops_in3 LM.snd_cau (snd_tup (snd_cons (snd_str "InvalidPart") (snd_cons (snd_str "InvalidHistory") (snd_cons (snd_str "InvalidWish") (snd_cons (snd_str "InvalidOffer") (snd_cons (snd_str "InvalidCommand") snd_nil)))))))) (snd_ret (snd_tup (snd_cons LM.snd_cau snd_nil))) snd_next)
    (snd_seq (snd_ifS (snd_testR (snd_op ops_in3 LM.snd_cau (snd_tup (snd_cons (snd_str "InvalidTable") (snd_cons (snd_str "InvalidValue") snd_nil))))) (snd_ret (snd_tup (snd_cons LM.snd_cau snd_nil))) snd_next)
    (snd_seq (snd_ifS (snd_testR (snd_op ops_eqA LM.snd_cau (snd_str "TooMany"))) (snd_ret (snd_tup (snd_cons LM.snd_cau (snd_cons LM.snd_cau snd_nil)))) snd_next)
    (snd_seq (snd_ifS (snd_testR (snd_op ops_eqA LM.snd_cau (snd_str "InvalidText"))) (snd_ret (snd_tup (snd_cons LM.snd_cau snd_nil))) snd_next)
    (snd_seq (snd_ifS (snd_testR (snd_op ops_eqA LM.snd_cau (snd_str "OtherWires"))) (snd_ret (snd_tup (snd_cons LM.snd_cau snd_nil))) snd_next)
    (snd_seq (snd_ifS (snd_testR (snd_op ops_eqA LM.snd_cau (snd_str "Unlike"))) (snd_ret (snd_tup (snd_cons LM.snd_cau snd_nil))) snd_next)
    (snd_seq (snd_ifS (snd_testR (snd_op ops_eqA LM.snd_cau (snd_str "Ring"))) (snd_ret (snd_tup (snd_cons LM.snd_cau snd_nil))) snd_next)
    (snd_ret (snd_ifE (snd_testR (snd_op ops_eqA LM.snd_cau (snd_str "Full"))) (snd_tup (snd_cons LM.snd_cau snd_nil)) (snd_tup snd_nil)))))))))))

theorem sc_law_why : FnScope ["_law_ask", "_law_e", "$env"] ["_law_ask"] (defScope (top 27)) := ⟨rfl, rfl, rfl, by decide +kernel, rfl, by decide +kernel, by decide +kernel⟩
theorem bd_law_why {fd : FuncData} (F : FunD K "_law_why" "_law_why" (defArgs (top 27)) (defBody (top 27)) (defScope (top 27)) [] [] (He.ga K "_law_why") fd) : Binds K fd ["_law_ask"] [] :=
  FunD.bindsN F fun _ _ _ _ _ _ us hl => match us, hl with | [_], _ => rfl
theorem ok_law_why (T : TT K mg P) : ∃ fd : FuncData, FunD K "_law_why" "_law_why" (defArgs (top 27)) (defBody (top 27)) (defScope (top 27)) [] [] (He.ga K "_law_why") fd ∧ FnOk P w K mg base (L2.CX P w) 8 (He.ga K "_law_why") fd ["_law_ask"] (LM.spE K 1 g_law_why) := by
  obtain ⟨fd_law_field, F_law_field, G_law_field⟩ := ok_law_field (P := P) (w := w) (base := base) T
  have B_law_field := bd_law_field F_law_field
  have hT := LM.tb_ok (P := P) (w := w) (K := K) (mg := mg) (base := base) (k := 7) (tab := lamTab) (all_cons (LM.LamOk.mono (okL_0 (P := P) (w := w) (base := base) T) (by decide)) (all_cons (LM.LamOk.mono (okL_1 (P := P) (w := w) (base := base) T) (by decide)) (all_cons (LM.LamOk.mono (okL_2 (P := P) (w := w) (base := base) T) (by decide)) (all_cons (LM.LamOk.mono (okL_3 (P := P) (w := w) (base := base) T) (by decide)) (all_cons (LM.LamOk.mono (okL_4 (P := P) (w := w) (base := base) T) (by decide)) (all_cons (LM.LamOk.mono (okL_5 (P := P) (w := w) (base := base) T) (by decide)) (all_cons (LM.LamOk.mono (okL_6 (P := P) (w := w) (base := base) T) (by decide)) (all_cons (LM.LamOk.mono (okL_7 (P := P) (w := w) (base := base) T) (by decide)) (all_cons (LM.LamOk.mono (okL_8 (P := P) (w := w) (base := base) T) (by decide)) (all_cons (LM.LamOk.mono (okL_9 (P := P) (w := w) (base := base) T) (by decide)) (all_cons (LM.LamOk.mono (okL_10 (P := P) (w := w) (base := base) T) (by decide)) (all_cons (LM.LamOk.mono (okL_11 (P := P) (w := w) (base := base) T) (by decide)) (all_cons (LM.LamOk.mono (okL_12 (P := P) (w := w) (base := base) T) (by decide)) (all_cons (LM.LamOk.mono (okL_13 (P := P) (w := w) (base := base) T) (by decide)) (all_cons (LM.LamOk.mono (okL_14 (P := P) (w := w) (base := base) T) (by decide)) (all_cons (LM.LamOk.mono (okL_15 (P := P) (w := w) (base := base) T) (by decide)) (all_cons (LM.LamOk.mono (okL_16 (P := P) (w := w) (base := base) T) (by decide)) all_nil)))))))))))))))))
  obtain ⟨fd, F0⟩ := T.t.def_ 10
  have F : FunD K "_law_why" "_law_why" (defArgs (top 27)) (defBody (top 27)) (defScope (top 27)) [] [] (He.ga K "_law_why") fd := F0
  refine ⟨fd, F, F.ok (k := 7) sc_law_why (fun vs H Q E h => LM.spE_len h) (fun cdv A outer s H vs Q E hr h => ?_)⟩
  apply Exists.intro
  apply And.intro
  · exact (pss_one (LM.ps_try_asT (i := 1) rfl rfl sc_law_why.nd rfl rfl (LM.test3 (LM.names_of rfl (lm51 T)) (LM.names_of rfl (lm52 T)) (LM.names_of rfl (lm53 T))) LM.mat3 (takes_of rfl rfl rfl rfl)
    (fun W pn xe tk _ => pss_one (ps_ret (pe_tup (pa_cons pe_str (pa_cons (LM.pe_act (i := 0) hT (hr.mono (by decide)) (fun σ => passAt tk σ) rfl (Or.inl rfl)) pa_nil)))))
    (fun a oe cls d pn hz hf hb => pss_one (ps_ret (pe_tup (pa_cons (LM.pe_xfs (i := 1) (lm50 T) hz hf rfl (Or.inl rfl)) (pa_cons (LM.pe_callF hb G_law_field (LM.roomQ (hr.mono (by decide)) _) rfl (lm54 T) F_law_field.kp B_law_field (pa_cons (pv 1) pa_nil)) pa_nil)))))))
  · refine LM.body_okE (N := ["_law_ask", "_law_e", "$env"]) (g := 2) (m := m_law_why) (ts := (LM.tWhy K (fun cls d x H => E cls d H) ((["VoteError", "Missing", "NothingLeft"] : List PySem.Str).map fun t => PySem.Value.ref (He.ga K t)) (LM.TBof K lamTab) 0 1 "told" "code" (["InvalidName", "InvalidNumber", "NothingLeft"] : List PySem.Str) (LM.spF K g_law_field))) ?_ h
    exact (LM.snd_why (all_cons (LM.exmB_ok (ts := (["VoteError", "Missing", "NothingLeft"] : List PySem.Str)) (T.b 11 (b := LM.exmB "InvalidName" (["VoteError", "Missing", "NothingLeft"] : List PySem.Str) true))) (all_cons (LM.exmB_ok (ts := (["VoteError", "Missing", "NothingLeft"] : List PySem.Str)) (T.b 10 (b := LM.exmB "InvalidNumber" (["VoteError", "Missing", "NothingLeft"] : List PySem.Str) true))) (all_cons (LM.exmB_ok (ts := (["VoteError", "Missing", "NothingLeft"] : List PySem.Str)) (T.b 9 (b := LM.exmB "NothingLeft" (["VoteError", "Missing", "NothingLeft"] : List PySem.Str) true))) all_nil))))

theorem sc_law_whys : FnScope ["_law_asks", "_law_ask", "$env"] ["_law_asks"] (defScope (top 28)) := ⟨rfl, rfl, rfl, by decide +kernel, rfl, by decide +kernel, by decide +kernel⟩
theorem bd_law_whys {fd : FuncData} (F : FunD K "_law_whys" "_law_whys" (defArgs (top 28)) (defBody (top 28)) (defScope (top 28)) [] [] (He.ga K "_law_whys") fd) : Binds K fd ["_law_asks"] [] :=
  FunD.bindsN F fun _ _ _ _ _ _ us hl => match us, hl with | [_], _ => rfl
theorem ok_law_whys (T : TT K mg P) : ∃ fd : FuncData, FunD K "_law_whys" "_law_whys" (defArgs (top 28)) (defBody (top 28)) (defScope (top 28)) [] [] (He.ga K "_law_whys") fd ∧ FnOk P w K mg base (L2.CX P w) 9 (He.ga K "_law_whys") fd ["_law_asks"] (LM.spE K 1 g_law_whys) := by
  obtain ⟨fd_law_why, F_law_why, G_law_why⟩ := ok_law_why (P := P) (w := w) (base := base) T
  have B_law_why := bd_law_why F_law_why
  obtain ⟨fd, F0⟩ := T.t.def_ 11
  have F : FunD K "_law_whys" "_law_whys" (defArgs (top 28)) (defBody (top 28)) (defScope (top 28)) [] [] (He.ga K "_law_whys") fd := F0
  refine ⟨fd, F, F.ok (k := 8) sc_law_whys (fun vs H Q E h => LM.spE_len h) (fun cdv A outer s H vs Q E hr h => ?_)⟩
  apply Exists.intro
  apply And.intro
  · exact (pss_one (ps_ret (pe_lc (own := ([("_law_ask", 1)] : List (Str × Nat))) rfl sc_law_whys.nd (pi_anyK (K := K) rfl (pv 0)) (blkOk_by (N := ["_law_asks", "_law_ask", "$env"]) (sc := defScope (top 28)) (by decide +kernel)) (fun _ _ _ _ _ => (pg_name (i := 1) sc_law_whys.nd rfl (Or.inl rfl))) (fun _ _ _ _ _ => pts_nil) (fun _ _ _ _ _ => (pe_callS G_law_why (hr.mono (by decide)) rfl (lm17 T) F_law_why.kp B_law_why (fun σ => passAt takes0 σ) (pa_cons (pv 1) pa_nil))))))
  · refine LM.body_okE (N := ["_law_asks", "_law_ask", "$env"]) (g := 2) (m := m_law_whys) ?_ h
    exact (snd_ret (snd_lcF (vs := [1]) (sndi_any (snd_var 0)) (sndg_name 1) (by decide) snd_yes (LM.snd_callEnv (g := 2) (snd_cons (snd_var 1) snd_nil))).weak)

theorem sc_law : FnScope ["_law_script", "_law_bag_here", "_law_turn", "_law_a", "_law_b", "_law_c", "_law_x", "_law_odd", "_law_late", "_law_bad", "_law_many", "_law_asks", "_law_due", "_law_value"] ["_law_script"] (defScope (top 30)) := ⟨rfl, rfl, rfl, by decide +kernel, rfl, by decide +kernel, by decide +kernel⟩
theorem bd_law {fd : FuncData} (F : FunD K "law" "law" (defArgs (top 30)) (defBody (top 30)) (defScope (top 30)) [] [] (He.ga K "law") fd) : Binds K fd ["_law_script"] [] :=
  FunD.bindsN F fun _ _ _ _ _ _ us hl => match us, hl with | [_], _ => rfl
abbrev CELLS_law : List PySem.Str := (["_law_a", "_law_b", "_law_c", "_law_x", "_law_odd", "_law_late", "_law_bad", "_law_many"] : List PySem.Str)
theorem cel_law : ∀ x ∈ CELLS_law, (defScope (top 30)).names.lookup x = some .cell := by decide +kernel
theorem lawF (T : TT K mg P) : ∃ fd : FuncData, FunD K "law" "law" (defArgs (top 30)) (defBody (top 30)) (defScope (top 30)) [] [] (He.ga K "law") fd := T.t.def_ 12
theorem ok_law (T : TT K mg P) {c Pt : Addr} (TB : LamX.TabB base mg c Pt) : ∃ fd : FuncData, FunD K "law" "law" (defArgs (top 30)) (defBody (top 30)) (defScope (top 30)) [] [] (He.ga K "law") fd ∧ (fd.code = .ref c → FnOk P w K mg base (L2.CX P w) 10 (He.ga K "law") fd ["_law_script"] (LM.spM K 1 8 (g_law Pt))) := by
  obtain ⟨fd_law_bag, F_law_bag, G_law_bag⟩ := ok_law_bag (P := P) (w := w) (base := base) T
  have B_law_bag := bd_law_bag F_law_bag
  obtain ⟨fd_law_names, F_law_names, G_law_names⟩ := ok_law_names (P := P) (w := w) (base := base) T
  have B_law_names := bd_law_names F_law_names
  obtain ⟨fd_law_of, F_law_of, G_law_of⟩ := ok_law_of (P := P) (w := w) (base := base) T
  have B_law_of := bd_law_of F_law_of
  obtain ⟨fd_law_same, F_law_same, G_law_same⟩ := ok_law_same (P := P) (w := w) (base := base) T 8
  have B_law_same := bd_law_same F_law_same
  obtain ⟨fd_law_whys, F_law_whys, G_law_whys⟩ := ok_law_whys (P := P) (w := w) (base := base) T
  have B_law_whys := bd_law_whys F_law_whys
  obtain ⟨fd, F0⟩ := T.t.def_ 12
  have F : FunD K "law" "law" (defArgs (top 30)) (defBody (top 30)) (defScope (top 30)) [] [] (He.ga K "law") fd := F0
  refine ⟨fd, F, fun hcode => LM.funD_okC (k := 9) F sc_law (fun vs H Q E h => LM.spM_len h) (fun cdv A outer s H vs Q E hcd hr h => ?_)⟩
  have hcd2 : cdv = .ref c := hcd.trans hcode
  subst hcd2
  have h2 := LM.spM_at h (LM.cellAs (cellsFrom (s.heap.objs.size + 1) (defScope (top 30)).names []) CELLS_law) rfl (LM.cellAs_nodup (by decide) cel_law)
  have hcs := LM.csOk_of (P := P) (w := w) (K := K) (mg := mg) (base := base) (N := ["_law_script", "_law_bag_here", "_law_turn", "_law_a", "_law_b", "_law_c", "_law_x", "_law_odd", "_law_late", "_law_bad", "_law_many", "_law_asks", "_law_due", "_law_value"]) (qual := "law") (f := (He.ga K "law")) (cd := .ref c) (A := A) (outer := outer) (s := s) (H := H) (E := E) (is := [3, 4, 5, 6, 7, 8, 9, 10]) cel_law (by decide)
  apply Exists.intro
  apply And.intro
  · exact (pss_cons (ps_set (i := 1) sc_law.nd rfl (Or.inl rfl) (pe_callSD G_law_bag (hr.mono (by decide)) rfl (lm1 T) F_law_bag.kp B_law_bag .nil (fun σ => passAt (takes_of rfl rfl rfl rfl) σ) (pa_cons (pv 0) pa_nil)))
    (pss_cons (ps_for (passes_of rfl) rfl (pi_range1 rfl (lm2 T) (pa_cons pe_int pa_nil)) (pg_name (i := 2) sc_law.nd rfl (Or.inl rfl)) (pss_cons (ps_asg (pe_callSD G_law_names (hr.mono (by decide)) rfl (lm3 T) F_law_names.kp B_law_names .nil (fun σ => passAt (takes_of rfl rfl rfl rfl) σ) (pa_cons (pv 1) (pa_cons pe_int pa_nil))) (LM.pg_tl (K := K) (n := 4) rfl rfl (pgs_cons (pg_name (i := 3) sc_law.nd rfl (Or.inr rfl)) (pgs_cons (pg_name (i := 4) sc_law.nd rfl (Or.inr rfl)) (pgs_cons (pg_name (i := 5) sc_law.nd rfl (Or.inr rfl)) (pgs_cons (pg_name (i := 6) sc_law.nd rfl (Or.inr rfl)) pgs_nil))))))
    (pss_cons (ps_asg (pe_tup (pa_cons (pe_callSD G_law_of (hr.mono (by decide)) rfl (lm4 T) F_law_of.kp B_law_of .nil (fun σ => passAt (takes_of rfl rfl rfl rfl) σ) (pa_cons (pv 1) (pa_cons (pe_lst (pa_cons pe_non (pa_cons pe_int (pa_cons pe_str (pa_cons pe_str (pa_cons pe_str (pa_cons pe_bl (pa_cons (pe_tup (pa_cons pe_str pa_nil)) (pa_cons (pe_lst (pa_cons pe_str pa_nil)) pa_nil))))))))) pa_nil))) (pa_cons (pe_callSD G_law_of (hr.mono (by decide)) rfl (lm4 T) F_law_of.kp B_law_of .nil (fun σ => passAt (takes_of rfl rfl rfl rfl) σ) (pa_cons (pv 1) (pa_cons (pe_lst (pa_cons pe_non (pa_cons pe_str (pa_cons pe_int (pa_cons pe_str pa_nil))))) pa_nil))) pa_nil))) (LM.pg_tl (K := K) (n := 2) rfl rfl (pgs_cons (pg_name (i := 7) sc_law.nd rfl (Or.inr rfl)) (pgs_cons (pg_name (i := 8) sc_law.nd rfl (Or.inr rfl)) pgs_nil))))
    (pss_cons (ps_asg (pe_tup (pa_cons (pe_callSD G_law_of (hr.mono (by decide)) rfl (lm4 T) F_law_of.kp B_law_of .nil (fun σ => passAt (takes_of rfl rfl rfl rfl) σ) (pa_cons (pv 1) (pa_cons (pe_lst (pa_cons pe_non (pa_cons pe_int (pa_cons pe_int (pa_cons pe_bl (pa_cons pe_str (pa_cons (pe_op op_sub pe_int pe_int) (pa_cons (pe_op op_pow pe_int pe_int) (pa_cons (pe_tup (pa_cons pe_int pa_nil)) pa_nil))))))))) pa_nil))) (pa_cons (pe_callSD G_law_of (hr.mono (by decide)) rfl (lm4 T) F_law_of.kp B_law_of .nil (fun σ => passAt (takes_of rfl rfl rfl rfl) σ) (pa_cons (pv 1) (pa_cons (pe_lst (pa_cons pe_int (pa_cons pe_int (pa_cons pe_non (pa_cons pe_str (pa_cons pe_bl pa_nil)))))) pa_nil))) pa_nil))) (LM.pg_tl (K := K) (n := 2) rfl rfl (pgs_cons (pg_name (i := 9) sc_law.nd rfl (Or.inr rfl)) (pgs_cons (pg_name (i := 10) sc_law.nd rfl (Or.inr rfl)) pgs_nil))))
    (pss_cons (ps_set (i := 11) sc_law.nd rfl (Or.inl rfl) (pe_lst (pa_cons (LM.pe_lam0 (F := LC 10) TB rfl rfl rfl rfl (LM.capB_ok (sc := defScope (top 30)) (by decide +kernel))) (pa_cons (LM.pe_lam1 (F := LC 9) TB rfl rfl rfl rfl rfl (LM.capB_ok (sc := defScope (top 30)) (by decide +kernel))) (pa_cons (LM.pe_lam1 (F := LC 8) TB rfl rfl rfl rfl rfl (LM.capB_ok (sc := defScope (top 30)) (by decide +kernel))) (pa_cons (LM.pe_lam1 (F := LC 7) TB rfl rfl rfl rfl rfl (LM.capB_ok (sc := defScope (top 30)) (by decide +kernel))) (pa_cons (LM.pe_lam1 (F := LC 6) TB rfl rfl rfl rfl rfl (LM.capB_ok (sc := defScope (top 30)) (by decide +kernel))) (pa_cons (LM.pe_lam1 (F := LC 5) TB rfl rfl rfl rfl rfl (LM.capB_ok (sc := defScope (top 30)) (by decide +kernel))) (pa_cons (LM.pe_lam1 (F := LC 4) TB rfl rfl rfl rfl rfl (LM.capB_ok (sc := defScope (top 30)) (by decide +kernel))) (pa_cons (LM.pe_lam1 (F := LC 3) TB rfl rfl rfl rfl rfl (LM.capB_ok (sc := defScope (top 30)) (by decide +kernel))) (pa_cons (LM.pe_lam1 (F := LC 2) TB rfl rfl rfl rfl rfl (LM.capB_ok (sc := defScope (top 30)) (by decide +kernel))) (pa_cons (LM.pe_lam1 (F := LC 1) TB rfl rfl rfl rfl rfl (LM.capB_ok (sc := defScope (top 30)) (by decide +kernel))) (pa_cons (LM.pe_lam1 (F := LC 0) TB rfl rfl rfl rfl rfl (LM.capB_ok (sc := defScope (top 30)) (by decide +kernel))) pa_nil)))))))))))))
    (pss_cons (ps_if (pt_not (pt_val (pe_callSD G_law_same (hr.mono (by omega)) rfl (lm6 T) F_law_same.kp B_law_same .nil (fun σ => passAt (takes_of rfl rfl rfl rfl) σ) (pa_cons (LM.pe_callB hcs G_law_whys (hr.mono (by decide)) rfl (lm5 T) F_law_whys.kp B_law_whys (pa_cons (pv 11) pa_nil)) (pa_cons (pe_op (LM.mul4K (K := K) rfl) (pe_lst (pa_cons (pe_tup (pa_cons pe_str (pa_cons (pe_tup (pa_cons (pv 7) pa_nil)) pa_nil))) pa_nil)) pe_int) pa_nil))))) (pss_one (ps_ret pe_bl)) pss_nil)
    (pss_cons (ps_set (i := 11) sc_law.nd rfl (Or.inl rfl) (pe_lst (pa_cons (LM.pe_lam0 (F := LC 16) TB rfl rfl rfl rfl (LM.capB_ok (sc := defScope (top 30)) (by decide +kernel))) (pa_cons (LM.pe_lam1 (F := LC 15) TB rfl rfl rfl rfl rfl (LM.capB_ok (sc := defScope (top 30)) (by decide +kernel))) (pa_cons (LM.pe_lam1 (F := LC 14) TB rfl rfl rfl rfl rfl (LM.capB_ok (sc := defScope (top 30)) (by decide +kernel))) (pa_cons (LM.pe_lam1 (F := LC 13) TB rfl rfl rfl rfl rfl (LM.capB_ok (sc := defScope (top 30)) (by decide +kernel))) (pa_cons (LM.pe_lam1 (F := LC 12) TB rfl rfl rfl rfl rfl (LM.capB_ok (sc := defScope (top 30)) (by decide +kernel))) (pa_cons (LM.pe_lam1 (F := LC 11) TB rfl rfl rfl rfl rfl (LM.capB_ok (sc := defScope (top 30)) (by decide +kernel))) pa_nil))))))))
    (pss_cons (ps_set (i := 12) sc_law.nd rfl (Or.inl rfl) (pe_lst (pa_cons pe_int (pa_cons pe_int (pa_cons pe_int (pa_cons pe_int (pa_cons (pv 9) (pa_cons (pv 10) pa_nil))))))))
    (pss_one (ps_if (pt_not (pt_val (pe_callSD G_law_same (hr.mono (by omega)) rfl (lm6 T) F_law_same.kp B_law_same .nil (fun σ => passAt (takes_of rfl rfl rfl rfl) σ) (pa_cons (LM.pe_callB hcs G_law_whys (hr.mono (by decide)) rfl (lm5 T) F_law_whys.kp B_law_whys (pa_cons (pv 11) pa_nil)) (pa_cons (pe_lc (own := ([("_law_value", 13)] : List (Str × Nat))) rfl sc_law.nd (pi_anyK (K := K) rfl (pv 12)) (blkOk_by (N := ["_law_script", "_law_bag_here", "_law_turn", "_law_a", "_law_b", "_law_c", "_law_x", "_law_odd", "_law_late", "_law_bad", "_law_many", "_law_asks", "_law_due", "_law_value"]) (sc := defScope (top 30)) (by decide +kernel)) (fun _ _ _ _ _ => (pg_name (i := 13) sc_law.nd rfl (Or.inl rfl))) (fun _ _ _ _ _ => pts_nil) (fun _ _ _ _ _ => (pe_tup (pa_cons pe_str (pa_cons (pe_tup (pa_cons (pv 13) pa_nil)) pa_nil))))) pa_nil))))) (pss_one (ps_ret pe_bl)) pss_nil))))))))))
    (pss_one (ps_ret pe_bl))))
  · refine body_ok (N := ["_law_script", "_law_bag_here", "_law_turn", "_law_a", "_law_b", "_law_c", "_law_x", "_law_odd", "_law_late", "_law_bad", "_law_many", "_law_asks", "_law_due", "_law_value"]) (m := m_law Pt (LM.cellAs (cellsFrom (s.heap.objs.size + 1) (defScope (top 30)).names []) CELLS_law)) ?_ h2
    exact (snd_seq (snd_asg (snd_call (fun _ => RpL.nil) (snd_cons (snd_var 0) snd_nil)) (sndg_name 1))
    (snd_seq (snd_for (sndi_rng1 (snd_cons (snd_int 5) snd_nil)) (sndg_name 2) (snd_seq (snd_asg (snd_call (fun _ => RpL.nil) (snd_cons (snd_var 1) (snd_cons (snd_int 4) snd_nil))) (LM.sndg_tl (sndg_cons (sndg_name 3) (sndg_cons (sndg_name 4) (sndg_cons (sndg_name 5) (sndg_cons (sndg_name 6) sndg_nil))))))
    (snd_seq (snd_asg (snd_tup (snd_cons (snd_call (fun _ => RpL.nil) (snd_cons (snd_var 1) (snd_cons (snd_lst (snd_cons snd_non (snd_cons (snd_int 3) (snd_cons (snd_str "") (snd_cons (snd_str "A") (snd_cons (snd_str "abcdefg") (snd_cons (snd_bl true) (snd_cons (snd_tup (snd_cons (snd_str "a") snd_nil)) (snd_cons (snd_lst (snd_cons (snd_str "a") snd_nil)) snd_nil))))))))) snd_nil))) (snd_cons (snd_call (fun _ => RpL.nil) (snd_cons (snd_var 1) (snd_cons (snd_lst (snd_cons snd_non (snd_cons (snd_str "") (snd_cons (snd_int 4) (snd_cons (snd_str "a b") snd_nil))))) snd_nil))) snd_nil))) (LM.sndg_tl (sndg_cons (sndg_name 7) (sndg_cons (sndg_name 8) sndg_nil))))
    (snd_seq (snd_asg (snd_tup (snd_cons (snd_call (fun _ => RpL.nil) (snd_cons (snd_var 1) (snd_cons (snd_lst (snd_cons snd_non (snd_cons (snd_int 0) (snd_cons (snd_int 4) (snd_cons (snd_bl true) (snd_cons (snd_str "1") (snd_cons (snd_op ops_sub (snd_int 0) (snd_int 1)) (snd_cons (snd_op ops_pow (snd_int 10) (snd_int 19)) (snd_cons (snd_tup (snd_cons (snd_int 1) snd_nil)) snd_nil))))))))) snd_nil))) (snd_cons (snd_call (fun _ => RpL.nil) (snd_cons (snd_var 1) (snd_cons (snd_lst (snd_cons (snd_int 0) (snd_cons (snd_int 6) (snd_cons snd_non (snd_cons (snd_str "2") (snd_cons (snd_bl true) snd_nil)))))) snd_nil))) snd_nil))) (LM.sndg_tl (sndg_cons (sndg_name 9) (sndg_cons (sndg_name 10) sndg_nil))))
    (snd_seq (snd_asg (snd_lst (snd_cons (LM.snd_lamE (by rfl)) (snd_cons (LM.snd_lamE (by rfl)) (snd_cons (LM.snd_lamE (by rfl)) (snd_cons (LM.snd_lamE (by rfl)) (snd_cons (LM.snd_lamE (by rfl)) (snd_cons (LM.snd_lamE (by rfl)) (snd_cons (LM.snd_lamE (by rfl)) (snd_cons (LM.snd_lamE (by rfl)) (snd_cons (LM.snd_lamE (by rfl)) (snd_cons (LM.snd_lamE (by rfl)) (snd_cons (LM.snd_lamE (by rfl)) snd_nil)))))))))))) (sndg_name 11))
    (snd_seq (snd_ifS (snd_not (snd_test (snd_call (fun _ => RpL.nil) (snd_cons (LM.snd_callB (snd_cons (snd_var 11) snd_nil)) (snd_cons (snd_op LM.ops_mul4 (snd_lst (snd_cons (snd_tup (snd_cons (snd_str "InvalidName") (snd_cons (snd_tup (snd_cons (snd_var 7) snd_nil)) snd_nil))) snd_nil)) (snd_int 11)) snd_nil))))) (snd_ret (snd_bl false)) snd_next)
    (snd_seq (snd_asg (snd_lst (snd_cons (LM.snd_lamE (by rfl)) (snd_cons (LM.snd_lamE (by rfl)) (snd_cons (LM.snd_lamE (by rfl)) (snd_cons (LM.snd_lamE (by rfl)) (snd_cons (LM.snd_lamE (by rfl)) (snd_cons (LM.snd_lamE (by rfl)) snd_nil))))))) (sndg_name 11))
    (snd_seq (snd_asg (snd_lst (snd_cons (snd_int 4) (snd_cons (snd_int 2) (snd_cons (snd_int 0) (snd_cons (snd_int 6) (snd_cons (snd_var 9) (snd_cons (snd_var 10) snd_nil))))))) (sndg_name 12))
    (snd_ifS (snd_not (snd_test (snd_call (fun _ => RpL.nil) (snd_cons (LM.snd_callB (snd_cons (snd_var 11) snd_nil)) (snd_cons (snd_lcF (vs := [13]) (sndi_any (snd_var 12)) (sndg_name 13) (by decide) snd_yes (snd_tup (snd_cons (snd_str "InvalidNumber") (snd_cons (snd_tup (snd_cons (snd_var 13) snd_nil)) snd_nil)))).weak snd_nil))))) (snd_ret (snd_bl false)) snd_next)))))))))
    (snd_ret (snd_bl true))))

end
end G

end
set_option maxHeartbeats 0
namespace G
open PySem PySem.Spec PyProof.Rows L2 DL
theorem facts {w : World} {K : PySem.W.Frag} {h : Heap} {mg : Str → Option Value} {fa : Addr} (X : K.In h) (Gn : h.Ns mainGlobals mg) (hfa : mg ("law" : Str) = some (.ref fa)) (c : SU.SaysS Lk K) (t : LM.TabH "law" K h) :
    LamX.LawAtS PySem.Challenge.rw_outvoted_k04_parts_refused w K (L2.CX (PySem.Challenge.rw_outvoted_k04_parts_refused).prog w) 10 63 "_law_script" mg fa h := by
  have T : TT K mg (PySem.Challenge.rw_outvoted_k04_parts_refused).prog := ⟨⟨h, X, Gn⟩, c, rfl, by decide +kernel, by decide +kernel⟩
  obtain ⟨oc, od, fd0, sl, cc, Pt, t1, t2, t3, t4, t5⟩ := t
  have e := hfa.symm.trans (T.t.glo 0)
  cases e
  obtain ⟨fd, F⟩ := lawF (P := (PySem.Challenge.rw_outvoted_k04_parts_refused).prog) T
  have e0 : fd0 = fd := by
    obtain ⟨_, _, _, _, _, _, _, _, _, _, _, l1, _⟩ := F.ex
    rw [l1] at t1
    cases t1
    rfl
  subst e0
  refine ⟨fd0, [(cc, Pt)], LM.spM K 1 8 (g_law Pt), fun p hp => ?_, fun p hp => ?_, fun p hp => ?_, fun s v => FunD.bindsA (ps := ["_law_script"]) F (fun _ _ _ _ _ _ us hl => match us, hl with | [_], _ => rfl) s [v] rfl, fun H a ns hl _ hT hS => ?_, fun base _ _ TB => ?_⟩
  · obtain rfl := List.mem_singleton.mp hp
    exact t4
  · obtain rfl := List.mem_singleton.mp hp
    exact t5
  · obtain rfl := List.mem_singleton.mp hp
    exact t3
  · exact LM.law_spM (q := ("law" ++ ".<locals>.") ++ "<lambda>") (hT (cc, Pt) (List.mem_singleton.mpr rfl)) hS fun as h1 h2 => law_true Pt as ns h1 h2 hl
  · obtain ⟨fd2, F2, G2⟩ := ok_law (P := (PySem.Challenge.rw_outvoted_k04_parts_refused).prog) (w := w) (base := base) T (TB (cc, Pt) (List.mem_singleton.mpr rfl))
    have e2 : fd2 = fd0 := by
      obtain ⟨_, _, _, _, _, _, _, _, _, _, e1, l1, _⟩ := F.ex
      obtain ⟨_, _, _, _, _, _, _, _, _, _, e2, l2, _⟩ := F2.ex
      rw [l1] at l2
      cases l2
      rfl
    subst e2
    exact G2 t2
end G
open PySem PySem.W PySem.Calls PyProof.Rows
theorem PySem.Challenge.cw_outvoted_k04_parts_refused_holds : PySem.Challenge.rw_outvoted_k04_parts_refused.Holds := by
  w_on; o_law
  refine HandSHeadRun.head_any (r := OpenLaw.row PySem.Challenge.rw_outvoted_k04_parts_refused) (q := view (OpenLaw.row PySem.Challenge.rw_outvoted_k04_parts_refused).prog [30]) (H := G.hk) (ob := G.ob) (M := 40000) (loose := G.loose) (d := HandSHeadRun.topDef (OpenLaw.row PySem.Challenge.rw_outvoted_k04_parts_refused).prog 30) (kwd := []) G.ob_eq
    (by kernel_rfl) (fun s => by kernel_rfl) G.run (by kernel_rfl) (by kernel_rfl) (by kernel_rfl) (by rfl) (by first | assumption | decide +kernel) (by decide +kernel) ⟨rfl, rfl, rfl, rfl, rfl, by decide +kernel⟩ ?hw ?hc
  case hw => w_witness2
  case hc =>
    refine LamX.walk_ofTsE (l := PySem.Challenge.rw_outvoted_k04_parts_refused) (n := 63) (k := 10) (x := "_law_script") (CX := fun w => L2.CX (PySem.Challenge.rw_outvoted_k04_parts_refused).prog w) rfl (by decide) (by kernel_rfl) ⟨rfl, by decide, by decide⟩ ?F ?X
    case X =>
      intro w H s e s' c
      obtain ⟨_, _, _, _, _, _, _, _, _, _, _, _, q⟩ := c
      exact q
    intro w mg fa h Y Gn hmg0
    obtain ⟨K, KX, c, t⟩ := Y
    have hmg : mg ("law" : PySem.Str) = some (.ref fa) := by
      have e : (HandSHeadRun.topDef (OpenLaw.row PySem.Challenge.rw_outvoted_k04_parts_refused).prog 30).name = ("law" : PySem.Str) := by kernel_rfl
      rw [← e]
      exact hmg0
    exact ⟨K, KX, G.facts (w := w) KX Gn hmg c t⟩
