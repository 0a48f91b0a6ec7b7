import PyProof.Rows.All
import Wide.All
import OpenK.AllK
import Wide.FinOn
import PyProof.EqAt
import PyProof.EqKinds
import PyProof.TupleCall
import HandS.ForMost
import HandS.ForExc
import HandS.Wide
import HandS.DeepEq
import HandS.DictComp
import HandS.TryMany
import HandS.ExcField
import HandS.TupAny
import HandS.Sort
import HandS.SortInts
import HandS.IsInst
import HandS.TupLen
import HandS.More
import HandS.Style
import HandS.Strs
import HandS.Text
import HandS.SortOrd
import HandS.RaiseMore
import KE.GoesEnum
import HandS.Iter
import HandS.Zip
import HandS.Flow
import HandS.Star
import HandS.MethStar
import HandS.Small
import HandS.WordsExc
import HandS.Words
import HandS.Codes
import HandS.ExcInit
import HandS.ExcSuper
import KE.KSuper
import HandS.Ends
import HandS.ExcIs
import KE.RegKSuper
import PySem.Challenge.RW_coresagree_k51_whole_images_changed_at_e
set_option Elab.async false
set_option linter.all false
set_option maxRecDepth 100000
/-! Ev1: deep data, how it lies in the abstract heap. -/
namespace Ev
open PySem PySem.Spec PyProof.Rows L2

inductive D where
  | non | bl (b : Bool) | int (i : Int) | str (x : Str)
  | tup (xs : List D) | lst (xs : List D) | dct (t : Bool) (kvs : List (D × D))
  | obj (n : Nat)
  | scr (ns : List Int)
instance : Inhabited D := ⟨.non⟩

def D.key : D → Option Key
  | .int i => some (.inl i)
  | .str s => some (.inr s)
  | _ => none
def keysOf : List D → Option (List Key)
  | [] => some []
  | d :: ds => match d.key, keysOf ds with
    | some k, some ks => some (k :: ks)
    | _, _ => none
def intHd : List D → Bool
  | .int _ :: _ => true
  | _ => false
def D.tkey : D → Option (List Key)
  | .tup xs => if intHd xs then keysOf xs else none
  | _ => none

/-- a written tuple, a written dict with text keys -/
def KTup (K : PySem.W.Frag) (a : Addr) (xs : List V) : Prop :=
  ∃ (o : Obj) (its : Array Value) (n : Nat), K.lookup a = some o ∧ o.cls = .type "tuple" ∧ o.data = .seq its n ∧ its.size ≤ sizeLine ∧ Vals xs its.toList
def KDic (K : PySem.W.Frag) (w : World) (a : Addr) (kvs : List (Key × V)) : Prop :=
  ∃ (es : Array DictEntry) (n : Nat), KDict K w a es n ∧ ∀ z : Str, ∃ r, PySem.W.nsIn K a z = some r ∧ RelO (valV kvs (.inr z)) r

/-- what is known besides the heap: the written part, the frozen heaps (F within G), the objects' addresses -/
structure RE where
  K : PySem.W.Frag
  w : World
  F : Hp
  G : Hp
  μ : Nat → Option Addr
  S : Addr → List Int → Prop
/-- the level of what lies within; from 1000 on: all the way down -/
def pr (k : Nat) : Nat := if 1000 ≤ k then k else k - 1
@[simp] theorem pr_zero : pr 0 = 0 := rfl
theorem pr_mono {j k : Nat} (h : j ≤ k) : pr j ≤ pr k := by
  unfold pr
  split <;> split <;> omega
def RE.hp (R : RE) : Nat → Hp
  | 0 => R.F
  | _ + 1 => R.G

def LsAt (F : Hp) (a : Addr) (xs : List V) : Prop := F a = some (.lst xs)
def strHd : List (D × D) → Bool
  | (.str _, _) :: _ => true
  | _ => false
/-- a tuple; a written one begins with no int (and is no key) -/
def TuAt (K : PySem.W.Frag) (F : Hp) (a : Addr) (ds : List D) (xs : List V) : Prop := F a = some (.tup xs) ∨ (KTup K a xs ∧ intHd ds = false)

mutual
def Rep (R : RE) (k : Nat) : D → V → Prop
  | .non, v => v = .non
  | .bl b, v => v = .bl b
  | .int i, v => v = .int i
  | .str x, v => v = .str x
  | .tup xs, v => ∃ a vs, v = .ref a ∧ TuAt R.K (R.hp k) a xs vs ∧ Reps R (pr k) xs vs
  | .lst xs, v => ∃ a vs, v = .ref a ∧ LsAt (R.hp k) a vs ∧ Reps R (pr k) xs vs
  | .dct false kvs, v => ∃ a vs, v = .ref a ∧ ∃ ks : List Key, ((R.hp k) a = some (.dK (ks.zip vs)) ∨ (KDic R.K R.w a (ks.zip vs) ∧ strHd kvs = true)) ∧ ks.length = vs.length ∧ RepK R (pr k) kvs ks vs
  | .dct true kvs, v => ∃ a vs, v = .ref a ∧ ∃ ks : List (List Key), (R.hp k) a = some (.dT (ks.zip vs)) ∧ ks.length = vs.length ∧ RepT R (pr k) kvs ks vs
  | .obj n, v => ∃ a, v = .ref a ∧ R.μ n = some a
  | .scr ns, v => ∃ a, v = .ref a ∧ R.S a ns
def Reps (R : RE) (k : Nat) : List D → List V → Prop
  | [], vs => vs = []
  | d :: ds, vs => ∃ v r, vs = v :: r ∧ Rep R k d v ∧ Reps R k ds r
def RepK (R : RE) (k : Nat) : List (D × D) → List Key → List V → Prop
  | [], ks, vs => ks = [] ∧ vs = []
  | (y, d) :: ds, ks, vs => ∃ q v qs r, ks = q :: qs ∧ vs = v :: r ∧ y.key = some q ∧ Rep R k d v ∧ RepK R k ds qs r
def RepT (R : RE) (k : Nat) : List (D × D) → List (List Key) → List V → Prop
  | [], ks, vs => ks = [] ∧ vs = []
  | (y, d) :: ds, ks, vs => ∃ q v qs r, ks = q :: qs ∧ vs = v :: r ∧ y.tkey = some q ∧ Rep R k d v ∧ RepT R k ds qs r
end

/-- R' knows all that R knows -/
structure REx (R R' : RE) : Prop where
  K : R'.K = R.K
  w : R'.w = R.w
  F : ∀ a u, R.F a = some u → R'.F a = some u
  G : ∀ a u, R.G a = some u → R'.G a = some u
  μ : ∀ n a, R.μ n = some a → R'.μ n = some a
  S : ∀ n a, R.S n a → R'.S n a
  S' : ∀ n a, R'.S n a → R.S n a
theorem REx.refl (R : RE) : REx R R := ⟨rfl, rfl, fun _ _ h => h, fun _ _ h => h, fun _ _ h => h, fun _ _ h => h, fun _ _ h => h⟩
theorem REx.trans {R R1 R2 : RE} (a : REx R R1) (b : REx R1 R2) : REx R R2 :=
  ⟨b.K.trans a.K, b.w.trans a.w, fun x u h => b.F x u (a.F x u h), fun x u h => b.G x u (a.G x u h), fun x u h => b.μ x u (a.μ x u h), fun x u h => b.S x u (a.S x u h), fun x u h => a.S' x u (b.S' x u h)⟩
theorem REx.hp {R R' : RE} (x : REx R R') : ∀ (k : Nat) a u, R.hp k a = some u → R'.hp k a = some u
  | 0 => x.F
  | _ + 1 => x.G

mutual
theorem Rep.ext {R R' : RE} (x : REx R R') : ∀ (k : Nat) (d : D) (v : V), Rep R k d v → Rep R' k d v
  | k, .non, v, h => h
  | k, .bl b, v, h => h
  | k, .int i, v, h => h
  | k, .str s, v, h => h
  | k, .tup xs, v, h => by
    obtain ⟨a, vs, e, t, r⟩ := h
    refine ⟨a, vs, e, ?_, Reps.ext x _ xs vs r⟩
    rcases t with t | t
    · exact .inl (x.hp k a _ t)
    · exact .inr (by rw [x.K]; exact t)
  | k, .lst xs, v, h => by
    obtain ⟨a, vs, e, t, r⟩ := h
    exact ⟨a, vs, e, x.hp k a _ t, Reps.ext x _ xs vs r⟩
  | k, .dct false kvs, v, h => by
    obtain ⟨a, vs, e, ks, t, l, r⟩ := h
    refine ⟨a, vs, e, ks, ?_, l, RepK.ext x _ kvs ks vs r⟩
    rcases t with t | t
    · exact .inl (x.hp k a _ t)
    · exact .inr (by rw [x.K, x.w]; exact t)
  | k, .dct true kvs, v, h => by
    obtain ⟨a, vs, e, ks, t, l, r⟩ := h
    exact ⟨a, vs, e, ks, x.hp k a _ t, l, RepT.ext x _ kvs ks vs r⟩
  | k, .obj n, v, h => by
    obtain ⟨a, e, t⟩ := h
    exact ⟨a, e, x.μ n a t⟩
  | k, .scr ns, v, h => by
    obtain ⟨a, e, t⟩ := h
    exact ⟨a, e, x.S a ns t⟩
theorem Reps.ext {R R' : RE} (x : REx R R') : ∀ (k : Nat) (ds : List D) (vs : List V), Reps R k ds vs → Reps R' k ds vs
  | k, [], vs, h => h
  | k, d :: ds, vs, h => by
    obtain ⟨v, r, e, h1, h2⟩ := h
    exact ⟨v, r, e, Rep.ext x k d v h1, Reps.ext x k ds r h2⟩
theorem RepK.ext {R R' : RE} (x : REx R R') : ∀ (k : Nat) (ds : List (D × D)) (ks : List Key) (vs : List V), RepK R k ds ks vs → RepK R' k ds ks vs
  | k, [], ks, vs, h => h
  | k, (y, d) :: ds, ks, vs, h => by
    obtain ⟨q, v, qs, r, e1, e2, e3, h1, h2⟩ := h
    exact ⟨q, v, qs, r, e1, e2, e3, Rep.ext x k d v h1, RepK.ext x k ds qs r h2⟩
theorem RepT.ext {R R' : RE} (x : REx R R') : ∀ (k : Nat) (ds : List (D × D)) (ks : List (List Key)) (vs : List V), RepT R k ds ks vs → RepT R' k ds ks vs
  | k, [], ks, vs, h => h
  | k, (y, d) :: ds, ks, vs, h => by
    obtain ⟨q, v, qs, r, e1, e2, e3, h1, h2⟩ := h
    exact ⟨q, v, qs, r, e1, e2, e3, Rep.ext x k d v h1, RepT.ext x k ds qs r h2⟩
end

/-- the frozen heap lies within the wider one -/
def RE.In (R : RE) : Prop := ∀ a u, R.F a = some u → R.G a = some u
theorem RE.In.hp {R : RE} (x : R.In) {j k : Nat} (h : j ≤ k) : ∀ a u, R.hp j a = some u → R.hp k a = some u := by
  intro a u e
  cases j with
  | zero =>
    cases k with
    | zero => exact e
    | succ k => exact x a u e
  | succ j =>
    cases k with
    | zero => omega
    | succ k => exact e
mutual
theorem Rep.up {R : RE} (x : R.In) : ∀ (j k : Nat) (d : D) (v : V), j ≤ k → Rep R j d v → Rep R k d v
  | j, k, .non, v, _, h => h
  | j, k, .bl b, v, _, h => h
  | j, k, .int i, v, _, h => h
  | j, k, .str s, v, _, h => h
  | j, k, .tup xs, v, hl, h => by
    obtain ⟨a, vs, e, t, r⟩ := h
    refine ⟨a, vs, e, ?_, Reps.up x _ _ xs vs (pr_mono hl) r⟩
    rcases t with t | t
    · exact .inl (x.hp hl a _ t)
    · exact .inr t
  | j, k, .lst xs, v, hl, h => by
    obtain ⟨a, vs, e, t, r⟩ := h
    exact ⟨a, vs, e, x.hp hl a _ t, Reps.up x _ _ xs vs (pr_mono hl) r⟩
  | j, k, .dct false kvs, v, hl, h => by
    obtain ⟨a, vs, e, ks, t, l, r⟩ := h
    refine ⟨a, vs, e, ks, ?_, l, RepK.up x _ _ kvs ks vs (pr_mono hl) r⟩
    rcases t with t | t
    · exact .inl (x.hp hl a _ t)
    · exact .inr t
  | j, k, .dct true kvs, v, hl, h => by
    obtain ⟨a, vs, e, ks, t, l, r⟩ := h
    exact ⟨a, vs, e, ks, x.hp hl a _ t, l, RepT.up x _ _ kvs ks vs (pr_mono hl) r⟩
  | j, k, .obj n, v, hl, h => h
  | j, k, .scr n, v, hl, h => h
theorem Reps.up {R : RE} (x : R.In) : ∀ (j k : Nat) (ds : List D) (vs : List V), j ≤ k → Reps R j ds vs → Reps R k ds vs
  | j, k, [], vs, _, h => h
  | j, k, d :: ds, vs, hl, h => by
    obtain ⟨v, r, e, h1, h2⟩ := h
    exact ⟨v, r, e, Rep.up x j k d v hl h1, Reps.up x j k ds r hl h2⟩
theorem RepK.up {R : RE} (x : R.In) : ∀ (j k : Nat) (ds : List (D × D)) (ks : List Key) (vs : List V), j ≤ k → RepK R j ds ks vs → RepK R k ds ks vs
  | j, k, [], ks, vs, _, h => h
  | j, k, (y, d) :: ds, ks, vs, hl, h => by
    obtain ⟨q, v, qs, r, e1, e2, e3, h1, h2⟩ := h
    exact ⟨q, v, qs, r, e1, e2, e3, Rep.up x j k d v hl h1, RepK.up x j k ds qs r hl h2⟩
theorem RepT.up {R : RE} (x : R.In) : ∀ (j k : Nat) (ds : List (D × D)) (ks : List (List Key)) (vs : List V), j ≤ k → RepT R j ds ks vs → RepT R k ds ks vs
  | j, k, [], ks, vs, _, h => h
  | j, k, (y, d) :: ds, ks, vs, hl, h => by
    obtain ⟨q, v, qs, r, e1, e2, e3, h1, h2⟩ := h
    exact ⟨q, v, qs, r, e1, e2, e3, Rep.up x j k d v hl h1, RepT.up x j k ds qs r hl h2⟩
end
theorem Reps.length {R : RE} {k : Nat} : ∀ {ds : List D} {vs : List V}, Reps R k ds vs → ds.length = vs.length
  | [], _, h => by cases h; rfl
  | d :: ds, _, h => by
    obtain ⟨v, r, e, _, h2⟩ := h
    subst e
    simp [Reps.length h2]
theorem Reps.get {R : RE} {k : Nat} : ∀ {ds : List D} {vs : List V} {i : Nat} {d : D}, Reps R k ds vs → ds[i]? = some d → ∃ v, vs[i]? = some v ∧ Rep R k d v
  | [], _, _, _, _, e => by simp at e
  | d :: ds, _, i, _, h, e => by
    obtain ⟨v, r, rfl, h1, h2⟩ := h
    cases i with
    | zero =>
      simp at e
      subst e
      exact ⟨v, rfl, h1⟩
    | succ i => exact Reps.get (i := i) h2 (by simpa using e)
theorem Reps.append {R : RE} {k : Nat} : ∀ {ds es : List D} {vs ws : List V}, Reps R k ds vs → Reps R k es ws → Reps R k (ds ++ es) (vs ++ ws)
  | [], _, _, _, h, g => by cases h; exact g
  | d :: ds, _, _, _, h, g => by
    obtain ⟨v, r, rfl, h1, h2⟩ := h
    exact ⟨v, r ++ _, rfl, h1, Reps.append h2 g⟩
theorem Reps.take {R : RE} {k : Nat} : ∀ {ds : List D} {vs : List V} (n : Nat), Reps R k ds vs → Reps R k (ds.take n) (vs.take n)
  | [], _, n, h => by cases h; simp [Reps]
  | d :: ds, _, 0, h => by simp [Reps]
  | d :: ds, _, n + 1, h => by
    obtain ⟨v, r, rfl, h1, h2⟩ := h
    exact ⟨v, r.take n, rfl, h1, Reps.take n h2⟩
theorem Reps.drop {R : RE} {k : Nat} : ∀ {ds : List D} {vs : List V} (n : Nat), Reps R k ds vs → Reps R k (ds.drop n) (vs.drop n)
  | [], _, n, h => by cases h; simp [Reps]
  | d :: ds, _, 0, h => h
  | d :: ds, _, n + 1, h => by
    obtain ⟨v, r, rfl, h1, h2⟩ := h
    exact Reps.drop n h2
theorem Reps.one {R : RE} {k : Nat} {d : D} {v : V} (h : Rep R k d v) : Reps R k [d] [v] := ⟨v, [], rfl, h, rfl⟩
theorem Reps.reverse {R : RE} {k : Nat} : ∀ {ds : List D} {vs : List V}, Reps R k ds vs → Reps R k ds.reverse vs.reverse
  | [], _, h => by cases h; exact rfl
  | d :: ds, _, h => by
    obtain ⟨v, r, rfl, h1, h2⟩ := h
    rw [List.reverse_cons, List.reverse_cons]
    exact Reps.append (Reps.reverse h2) (.one h1)
theorem Reps.ints {R : RE} {k : Nat} : ∀ {ns : List Int} {vs : List V}, Reps R k (ns.map D.int) vs → vs = ns.map V.int
  | [], _, h => h
  | n :: ns, _, h => by
    obtain ⟨v, r, rfl, h1, h2⟩ := h
    rw [Reps.ints h2, show v = V.int n from h1]; rfl
theorem Reps.of_ints {R : RE} {k : Nat} : ∀ (ns : List Int), Reps R k (ns.map D.int) (ns.map V.int)
  | [] => rfl
  | n :: ns => ⟨_, _, rfl, rfl, Reps.of_ints ns⟩
theorem Reps.strs {R : RE} {k : Nat} : ∀ {ns : List Str} {vs : List V}, Reps R k (ns.map D.str) vs → vs = ns.map V.str
  | [], _, h => h
  | n :: ns, _, h => by
    obtain ⟨v, r, rfl, h1, h2⟩ := h
    rw [Reps.strs h2, show v = V.str n from h1]; rfl
theorem Reps.of_strs {R : RE} {k : Nat} : ∀ (ns : List Str), Reps R k (ns.map D.str) (ns.map V.str)
  | [] => rfl
  | n :: ns => ⟨_, _, rfl, rfl, Reps.of_strs ns⟩

/-- the heap bears what is known -/
def isDic : HO → Prop
  | .dK _ => True
  | .dT _ => True
  | _ => False
/-- it lies there, a dict may be locked -/
def Ly (H : Hp) (a : Addr) (u : HO) : Prop := H a = some u ∨ ∃ o, H a = some (.frz o u) ∧ isDic u
theorem Ly.rd {H : Hp} {a : Addr} {u : HO} (r : Ly H a u) : Rd H a u := by
  rcases r with r | ⟨o, r, _⟩
  · exact .inl r
  · exact .inr ⟨o, r⟩
structure RIn (R : RE) (H : Hp) : Prop where
  inn : R.In
  sub : ∀ a u, R.G a = some u → Ly H a u
  scr : ∀ a ns, R.S a ns → SqL R.K H a (ns.map V.int)
theorem RIn.hp {R : RE} {H : Hp} (x : RIn R H) : ∀ (k : Nat) a u, R.hp k a = some u → Ly H a u
  | 0, a, u, e => x.sub a u (x.inn a u e)
  | _ + 1, a, u, e => x.sub a u e
theorem RIn.lst {R : RE} {H : Hp} (x : RIn R H) {k : Nat} {a : Addr} {vs : List V} (h : LsAt (R.hp k) a vs) : SqL R.K H a vs := .inl (x.hp k a _ h).rd
theorem RIn.rdl {R : RE} {H : Hp} (x : RIn R H) {k : Nat} {a : Addr} {vs : List V} (h : LsAt (R.hp k) a vs) : H a = some (.lst vs) := by
  rcases x.hp k a _ h with e | ⟨o, _, e⟩
  · exact e
  · exact e.elim
theorem RIn.tup {R : RE} {H : Hp} (x : RIn R H) {k : Nat} {a : Addr} {ds : List D} {vs : List V} (h : TuAt R.K (R.hp k) a ds vs) : SqT R.K H a vs := by
  rcases h with h | h
  · exact .inl (x.hp k a _ h).rd
  · exact .inr h.1
theorem RIn.rdt {R : RE} {H : Hp} (x : RIn R H) {k : Nat} {a : Addr} {ds : List D} {vs : List V} (h : TuAt R.K (R.hp k) a ds vs) (hi : intHd ds = true) : H a = some (.tup vs) := by
  rcases h with h | h
  · rcases x.hp k a _ h with e | ⟨o, _, e⟩
    · exact e
    · exact e.elim
  · rw [hi] at h; cases h.2
theorem Rd.some {H : Hp} {a : Addr} {u : HO} (r : Rd H a u) : ∃ o, H a = some o := by
  rcases r with r | ⟨o, r⟩
  · exact ⟨_, r⟩
  · exact ⟨_, r⟩

theorem upd_keeps' {F : Hp} {a : Addr} {o : HO} (n : F a = none) : ∀ b u, F b = some u → upd F a o b = some u := fun b u e => by
  rw [upd_ne (ne_of_none e n)]; exact e
/-- a new object is laid; at level k it is known -/
def RE.lay (R : RE) (k : Nat) (a : Addr) (o : HO) : RE :=
  match k with
  | 0 => { R with F := upd R.F a o, G := upd R.G a o }
  | _ + 1 => { R with G := upd R.G a o }
theorem RE.lay_hp (R : RE) (k : Nat) (a : Addr) (o : HO) : (R.lay k a o).hp k a = some o := by
  cases k with
  | zero => exact upd_same
  | succ k => exact upd_same
theorem RE.lay_K (R : RE) (k : Nat) (a : Addr) (o : HO) : (R.lay k a o).K = R.K := by cases k <;> rfl
theorem RE.lay_w (R : RE) (k : Nat) (a : Addr) (o : HO) : (R.lay k a o).w = R.w := by cases k <;> rfl
theorem RIn.gnone {R : RE} {H : Hp} (x : RIn R H) {a : Addr} (n : H a = none) : R.G a = none := by
  cases e : R.G a with
  | none => rfl
  | some u =>
    obtain ⟨o, q⟩ := Rd.some (x.sub a u e).rd
    rw [n] at q; cases q
theorem RIn.fnone {R : RE} {H : Hp} (x : RIn R H) {a : Addr} (n : H a = none) : R.F a = none := by
  cases e : R.F a with
  | none => rfl
  | some u =>
    have := x.inn a u e
    rw [x.gnone n] at this; cases this
theorem upd_keeps {F : Hp} {a : Addr} {o : HO} (n : F a = none) : ∀ b u, F b = some u → upd F a o b = some u := fun b u e => by
  rw [upd_ne (ne_of_none e n)]; exact e
theorem REx.lay {R : RE} {H : Hp} (x : RIn R H) (k : Nat) {a : Addr} {o : HO} (n : H a = none) : REx R (R.lay k a o) := by
  cases k with
  | zero => exact ⟨rfl, rfl, upd_keeps (x.fnone n), upd_keeps (x.gnone n), fun _ _ h => h, fun _ _ h => h, fun _ _ h => h⟩
  | succ k => exact ⟨rfl, rfl, fun _ _ h => h, upd_keeps (x.gnone n), fun _ _ h => h, fun _ _ h => h, fun _ _ h => h⟩
theorem RIn.lay {R : RE} {H : Hp} (x : RIn R H) (k : Nat) {a : Addr} {o : HO} (n : H a = none) : RIn (R.lay k a o) (upd H a o) := by
  have inn : (R.lay k a o).In := by
    cases k with
    | zero =>
      intro b u e
      by_cases hb : b = a
      · subst hb
        rw [show (R.lay 0 b o).F = upd R.F b o from rfl, upd_same] at e
        rw [show (R.lay 0 b o).G = upd R.G b o from rfl, upd_same]; exact e
      · rw [show (R.lay 0 a o).F = upd R.F a o from rfl, upd_ne hb] at e
        rw [show (R.lay 0 a o).G = upd R.G a o from rfl, upd_ne hb]; exact x.inn b u e
    | succ k =>
      intro b u e
      exact upd_keeps (x.gnone n) b u (x.inn b u e)
  have sc : ∀ b ns, (R.lay k a o).S b ns → SqL (R.lay k a o).K (upd H a o) b (ns.map V.int) := fun b ns e => by
    have e' : R.S b ns := by cases k <;> exact e
    rw [R.lay_K]
    exact Same.seq (fun b u e => upd_keeps' n b u e) (x.scr b ns e')
  refine ⟨inn, fun b u e => ?_, sc⟩
  have e' : upd R.G a o b = some u := by cases k <;> exact e
  by_cases hb : b = a
  · subst hb
    rw [upd_same] at e'
    exact .inl (by rw [upd_same]; exact e')
  · rw [upd_ne hb] at e'
    rcases x.sub b u e' with q | ⟨ob, q⟩
    · exact .inl (by rw [upd_ne hb]; exact q)
    · exact .inr ⟨ob, by rw [upd_ne hb]; exact q.1, q.2⟩
/-- the heap grows -/
theorem Same.rd {H H' : Hp} (s : Same H H') {a : Addr} {u : HO} (r : Rd H a u) : Rd H' a u := by
  rcases r with r | ⟨o, r⟩
  · exact .inl (s _ _ r)
  · exact .inr ⟨o, s _ _ r⟩
theorem Same.ly {H H' : Hp} (s : Same H H') {a : Addr} {u : HO} (r : Ly H a u) : Ly H' a u := by
  rcases r with r | ⟨o, r, q⟩
  · exact .inl (s _ _ r)
  · exact .inr ⟨o, s _ _ r, q⟩
theorem RIn.same {R : RE} {H H' : Hp} (x : RIn R H) (s : Same H H') : RIn R H' := ⟨x.inn, fun a u e => Same.ly s (x.sub a u e), fun a ns e => Same.seq s (x.scr a ns e)⟩

/-- behind an expression: what was tracked stands, what is newly known is new -/
structure Post (R : RE) (H : Hp) (R' : RE) (H' : Hp) : Prop where
  ex : REx R R'
  rin : RIn R' H'
  same : Same H H'
  fresh : ∀ a u, R'.G a = some u → R.G a = some u ∨ H a = none
  freshF : ∀ a u, R'.F a = some u → R.F a = some u ∨ H a = none
theorem Post.refl {R : RE} {H : Hp} (x : RIn R H) : Post R H R H := ⟨.refl R, x, .refl H, fun _ _ h => .inl h, fun _ _ h => .inl h⟩
theorem Post.trans {R R1 R2 : RE} {H H1 H2 : Hp} (a : Post R H R1 H1) (b : Post R1 H1 R2 H2) : Post R H R2 H2 :=
  ⟨a.ex.trans b.ex, b.rin, a.same.trans b.same, fun x u h => (b.fresh x u h).elim (a.fresh x u) fun n => .inr (a.same.free n), fun x u h => (b.freshF x u h).elim (a.freshF x u) fun n => .inr (a.same.free n)⟩
theorem Post.new {R : RE} {H : Hp} (x : RIn R H) (k : Nat) {a : Addr} {o : HO} (n : H a = none) : Post R H (R.lay k a o) (upd H a o) := by
  refine ⟨.lay x k n, x.lay k n, fun b u e => upd_keeps n b u e, fun b u e => ?_, fun b u e => ?_⟩
  · have e' : upd R.G a o b = some u := by cases k <;> exact e
    by_cases hb : b = a
    · exact .inr (by rw [hb]; exact n)
    · rw [upd_ne hb] at e'
      exact .inl e'
  · by_cases hb : b = a
    · exact .inr (by rw [hb]; exact n)
    · cases k with
      | zero =>
        have e' : upd R.F a o b = some u := e
        rw [upd_ne hb] at e'
        exact .inl e'
      | succ k => exact .inl e
/-- a new list, a new tuple of known things -/
theorem Rep.newL {R : RE} {H : Hp} (x : RIn R H) {k : Nat} {a : Addr} {ds : List D} {vs : List V} (n : H a = none) (r : Reps R (pr k) ds vs) : Rep (R.lay k a (.lst vs)) k (.lst ds) (.ref a) :=
  ⟨a, vs, rfl, R.lay_hp k a _, r.ext (.lay x k n)⟩
theorem Rep.newT {R : RE} {H : Hp} (x : RIn R H) {k : Nat} {a : Addr} {ds : List D} {vs : List V} (n : H a = none) (r : Reps R (pr k) ds vs) : Rep (R.lay k a (.tup vs)) k (.tup ds) (.ref a) :=
  ⟨a, vs, rfl, .inl (R.lay_hp k a _), r.ext (.lay x k n)⟩
end Ev
set_option Elab.async false
set_option linter.all false
set_option maxRecDepth 100000
/-! Ev2: the terms (with their positions), what they mean. -/
namespace Ev
open PySem PySem.Spec PyProof.Rows L2

/-! ### results -/
inductive R (α : Type) where
  | ok (a : α) | exc (c : Str) (a : D) | fail
def R.bind {α β : Type} (r : R α) (f : α → R β) : R β := match r with
  | .ok a => f a
  | .exc c a => .exc c a
  | .fail => .fail
instance : Monad R where
  pure := R.ok
  bind := R.bind
@[simp] theorem R.pure_eq {α : Type} (a : α) : (pure a : R α) = .ok a := rfl
@[simp] theorem R.ok_bind {α β : Type} (a : α) (f : α → R β) : (R.ok a >>= f) = f a := rfl
@[simp] theorem R.exc_bind {α β : Type} (c : Str) (a : D) (f : α → R β) : (R.exc c a >>= f) = R.exc c a := rfl
@[simp] theorem R.fail_bind {α β : Type} (f : α → R β) : (R.fail >>= f) = R.fail := rfl
def R.get {α : Type} : Option α → R α
  | some a => .ok a
  | none => .fail
@[simp] theorem R.get_some {α : Type} (a : α) : R.get (some a) = .ok a := rfl
@[simp] theorem R.get_none {α : Type} : (R.get none : R α) = .fail := rfl
def R.when (b : Bool) : R Unit := if b then .ok () else .fail
@[simp] theorem R.when_true : R.when true = .ok () := rfl
@[simp] theorem R.when_false : R.when false = .fail := rfl

/-! ### slots -/
inductive T where
  | bor (d : D) (k : Nat)
  | fl (ds : List D)
  | fd (t : Bool) (kvs : List (D × D))
  | ol (ts : List T)
  | od (t : Bool) (kvs : List (D × T))
abbrev T.val (d : D) : T := .bor d 0
mutual
def T.toD : T → D
  | .bor d _ => d
  | .fl ds => .lst ds
  | .fd t kvs => .dct t kvs
  | .ol ts => .lst (T.toDs ts)
  | .od t kvs => .dct t (T.toDk kvs)
def T.toDs : List T → List D
  | [] => []
  | t :: ts => t.toD :: T.toDs ts
def T.toDk : List (D × T) → List (D × D)
  | [] => []
  | (d, t) :: ts => (d, t.toD) :: T.toDk ts
end
mutual
def T.lvl : T → Nat
  | .bor _ k => k
  | .fl _ => 1
  | .fd _ _ => 1
  | .ol ts => T.lvls ts + 1
  | .od _ kvs => T.lvlk kvs + 1
def T.lvls : List T → Nat
  | [] => 0
  | t :: ts => max t.lvl (T.lvls ts)
def T.lvlk : List (D × T) → Nat
  | [] => 0
  | (_, t) :: ts => max t.lvl (T.lvlk ts)
end
abbrev Env := List (Option T)
abbrev DL := D × Nat
/-- an object of an own class -/
structure Ob where
  cls : Str
  fs : List (Str × T)
abbrev Sto := List Ob

/-! ### values -/
def upL (m : Nat) : Nat := if m = 0 then 0 else m + 1
@[simp] theorem upL_zero : upL 0 = 0 := rfl
def D.isScal : D → Bool
  | .non | .bl _ | .int _ | .str _ => true
  | _ => false
def lvlOf (d : D) (k : Nat) : Nat := if d.isScal then 0 else k
@[simp] theorem lvlOf_zero (d : D) : lvlOf d 0 = 0 := by unfold lvlOf; split <;> rfl
mutual
def D.dep : D → Nat
  | .non | .bl _ | .int _ | .str _ => 0
  | .tup xs => D.deps xs + 1
  | .lst xs => D.deps xs + 1
  | .dct _ _ => 1000
  | .obj _ => 1000
  | .scr _ => 1000
def D.deps : List D → Nat
  | [] => 0
  | d :: ds => max d.dep (D.deps ds)
end
/-- plain nested data: no dict, no object, not too deep -/
def D.fits (d : D) : Bool := decide (d.dep ≤ 40)
def b2i (b : Bool) : Int := if b then 1 else 0
/-- a key's value in a dict -/
def keyEq : D → D → Bool
  | .int i, .int j => decide (i = j)
  | .str x, .str y => decide (x = y)
  | .tup xs, .tup ys => keyEqs xs ys
  | _, _ => false
where keyEqs : List D → List D → Bool
  | [], [] => true
  | .int i :: xs, .int j :: ys => decide (i = j) && keyEqs xs ys
  | .str x :: xs, .str y :: ys => decide (x = y) && keyEqs xs ys
  | _, _ => false
/-- may y be looked up in such a dict -/
def keyOk (t : Bool) (kvs : List (D × D)) (y : D) : Bool :=
  if t then y.tkey.isSome else if strHd kvs then (match y with | .str _ => true | _ => false) else y.key.isSome
def dget (y : D) : List (D × D) → Option D
  | [] => none
  | (k, d) :: r => if keyEq k y then some d else dget y r
mutual
def deq : D → D → Bool
  | .non, .non => true
  | .bl a, .bl b => a == b
  | .bl a, .int j => b2i a == j
  | .int i, .bl b => i == b2i b
  | .int i, .int j => i == j
  | .str x, .str y => decide (x = y)
  | .lst xs, .lst ys => deqs xs ys
  | .tup xs, .tup ys => deqs xs ys
  | .dct _ xs, .dct _ ys => decide (xs.length = ys.length) && deqk ys xs
  | _, _ => false
def deqs : List D → List D → Bool
  | [], [] => true
  | x :: xs, y :: ys => deq x y && deqs xs ys
  | _, _ => false
def deqk (ys : List (D × D)) : List (D × D) → Bool
  | [] => true
  | (k, x) :: xs => (match dget k ys with | some y => deq x y | none => false) && deqk ys xs
end
def asInts : List D → Option (List Int)
  | [] => some []
  | .int i :: ds => (asInts ds).map (i :: ·)
  | _ :: _ => none
def asStrs : List D → Option (List Str)
  | [] => some []
  | .str i :: ds => (asStrs ds).map (i :: ·)
  | _ :: _ => none
def asBls : List D → Option (List Bool)
  | [] => some []
  | .bl i :: ds => (asBls ds).map (i :: ·)
  | _ :: _ => none
def asPairs : List D → Option (List (D × D))
  | [] => some []
  | .tup [a, b] :: ds => (asPairs ds).map ((a, b) :: ·)
  | _ :: _ => none
@[simp] theorem asInts_map (ns : List Int) : asInts (ns.map D.int) = some ns := by
  induction ns with
  | nil => rfl
  | cons n ns ih => simp [asInts, ih]
@[simp] theorem asStrs_map (ns : List Str) : asStrs (ns.map D.str) = some ns := by
  induction ns with
  | nil => rfl
  | cons n ns ih => simp [asStrs, ih]
@[simp] theorem asBls_map (ns : List Bool) : asBls (ns.map D.bl) = some ns := by
  induction ns with
  | nil => rfl
  | cons n ns ih => simp [asBls, ih]
theorem asInts_of : ∀ {ds : List D} {ns : List Int}, asInts ds = some ns → ds = ns.map D.int
  | [], ns, h => by simp [asInts] at h; subst h; rfl
  | .int i :: ds, ns, h => by
    simp only [asInts] at h
    obtain ⟨r, e, rfl⟩ := Option.map_eq_some_iff.mp h
    rw [asInts_of e]; rfl
  | .non :: _, _, h => by simp [asInts] at h
  | .bl _ :: _, _, h => by simp [asInts] at h
  | .str _ :: _, _, h => by simp [asInts] at h
  | .tup _ :: _, _, h => by simp [asInts] at h
  | .lst _ :: _, _, h => by simp [asInts] at h
  | .dct _ _ :: _, _, h => by simp [asInts] at h
  | .obj _ :: _, _, h => by simp [asInts] at h
  | .scr _ :: _, _, h => by simp [asInts] at h
theorem asStrs_of : ∀ {ds : List D} {ns : List Str}, asStrs ds = some ns → ds = ns.map D.str
  | [], ns, h => by simp [asStrs] at h; subst h; rfl
  | .str i :: ds, ns, h => by
    simp only [asStrs] at h
    obtain ⟨r, e, rfl⟩ := Option.map_eq_some_iff.mp h
    rw [asStrs_of e]; rfl
  | .non :: _, _, h => by simp [asStrs] at h
  | .bl _ :: _, _, h => by simp [asStrs] at h
  | .int _ :: _, _, h => by simp [asStrs] at h
  | .tup _ :: _, _, h => by simp [asStrs] at h
  | .lst _ :: _, _, h => by simp [asStrs] at h
  | .dct _ _ :: _, _, h => by simp [asStrs] at h
  | .obj _ :: _, _, h => by simp [asStrs] at h
  | .scr _ :: _, _, h => by simp [asStrs] at h
theorem asBls_of : ∀ {ds : List D} {ns : List Bool}, asBls ds = some ns → ds = ns.map D.bl
  | [], ns, h => by simp [asBls] at h; subst h; rfl
  | .bl i :: ds, ns, h => by
    simp only [asBls] at h
    obtain ⟨r, e, rfl⟩ := Option.map_eq_some_iff.mp h
    rw [asBls_of e]; rfl
  | .non :: _, _, h => by simp [asBls] at h
  | .str _ :: _, _, h => by simp [asBls] at h
  | .int _ :: _, _, h => by simp [asBls] at h
  | .tup _ :: _, _, h => by simp [asBls] at h
  | .lst _ :: _, _, h => by simp [asBls] at h
  | .dct _ _ :: _, _, h => by simp [asBls] at h
  | .obj _ :: _, _, h => by simp [asBls] at h
  | .scr _ :: _, _, h => by simp [asBls] at h

def D.isNon : D → Bool
  | .non => true
  | _ => false
def D.isDct : D → Bool
  | .dct _ _ => true
  | _ => false
/-- a dict whose keys are ints and texts, its values plain -/
def dctOk (kvs : List (D × D)) : Bool := kvs.all fun p => p.1.key.isSome && p.2.fits
/-- what == can tell here -/
def elOk : D → D → Bool
  | .dct false a, .dct false b => (dctOk a && !strHd a) && (dctOk b && !strHd b)
  | x, y => x.fits && y.fits
def elsOk : List D → List D → Bool
  | x :: xs, y :: ys => elOk x y && elsOk xs ys
  | _, _ => true
def eqOk : D → D → Bool
  | .tup xs, .tup ys => ((D.tup xs).fits && (D.tup ys).fits) || elsOk xs ys
  | .tup xs, y => y.isScal || ((D.tup xs).fits && y.fits)
  | x, .tup ys => x.isScal || (x.fits && (D.tup ys).fits)
  | x, y => elOk x y
/-! ### operators -/
def small64 (i : Int) : Bool := decide (-(2 ^ 64) < i) && decide (i < 2 ^ 64)
def evBin (o : Operator) (x y : DL) : R DL :=
  match o, x, y with
  | .Add, (.int i, _), (.int j, _) => .ok (.int (i + j), 0)
  | .Add, (.str s, _), (.str t, _) => if s.length + t.length ≤ sizeLine then .ok (.str (s ++ t), 0) else .fail
  | .Add, (.lst xs, k), (.lst ys, l) => if xs.length + ys.length ≤ sizeLine then .ok (.lst (xs ++ ys), upL (max (pr k) (pr l))) else .fail
  | .Add, (.tup xs, k), (.tup ys, l) => if xs.length + ys.length ≤ sizeLine then .ok (.tup (xs ++ ys), max k l) else .fail
  | .Sub, (.int i, _), (.int j, _) => .ok (.int (i - j), 0)
  | .Mult, (.int i, _), (.int j, _) => if small64 i || small64 j then .ok (.int (i * j), 0) else .fail
  | .Mult, (.lst xs, k), (.int j, _) => if decide (-(2 ^ 63) ≤ j) && decide (j < 2 ^ 63) && decide (xs.length * j.toNat ≤ sizeLine) then .ok (.lst (List.replicate j.toNat xs).flatten, upL (pr k)) else .fail
  | .FloorDiv, (.int i, _), (.int j, _) => if decide (0 < j) && decide (j < 1073741824) then .ok (.int (i / j), 0) else .fail
  | .Mod, (.int i, _), (.int j, _) => if decide (0 < j) then .ok (.int (i % j), 0) else .fail
  | .Pow, (.int i, _), (.int j, _) => if decide (0 ≤ j) && decide (j ≤ 1000000) && decide (i.natAbs < 2 ^ 64) then .ok (.int (i ^ j.toNat), 0) else .fail
  | _, _, _ => .fail
def tupInts : D → Option (List Int)
  | .tup xs => asInts xs
  | _ => none
def evCmp (o : CmpOp) (x y : DL) : R Bool :=
  match o with
  | .Lt => match x.1, y.1 with
    | .int i, .int j => .ok (decide (i < j))
    | .tup xs, .tup ys => match asInts xs, asInts ys with
      | some ns, some ms => .ok (HT.lexLt ns ms)
      | _, _ => .fail
    | _, _ => .fail
  | .LtE => match x.1, y.1 with | .int i, .int j => .ok (decide (i ≤ j)) | _, _ => .fail
  | .Gt => match x.1, y.1 with | .int i, .int j => .ok (decide (j < i)) | _, _ => .fail
  | .GtE => match x.1, y.1 with | .int i, .int j => .ok (decide (j ≤ i)) | _, _ => .fail
  | .Eq => if eqOk x.1 y.1 then .ok (deq x.1 y.1) else .fail
  | .NotEq => if eqOk x.1 y.1 && !x.1.isDct then .ok (!deq x.1 y.1) else .fail
  | .Is => match y.1 with | .non => .ok x.1.isNon | _ => .fail
  | .IsNot => match y.1 with | .non => .ok (!x.1.isNon) | _ => .fail
  | .In => isIn x.1 y.1
  | .NotIn => match isIn x.1 y.1 with | .ok b => .ok (!b) | _ => .fail
where isIn (x y : D) : R Bool :=
    match y with
    | .lst ys => if x.fits && (D.lst ys).fits then .ok (ys.any fun y => deq y x) else .fail
    | .tup ys => if x.fits && (D.tup ys).fits then .ok (ys.any fun y => deq y x) else .fail
    | .dct t kvs => if keyOk t kvs x then .ok (dget x kvs).isSome else .fail
    | .str s => match x with | .str t => .ok (!(Builtin.Str.occurrences s t 0 s.length 1).isEmpty) | _ => .fail
    | _ => .fail
def evNeg : DL → R DL
  | (.int i, _) => .ok (.int (-i), 0)
  | _ => .fail
def evIdx (x y : DL) : R DL :=
  match x, y with
  | (.lst xs, k), (.int i, _) => match atI xs i with | some d => .ok (d, lvlOf d (pr k)) | none => .fail
  | (.scr ns, _), (.int i, _) => match atI ns i with | some d => .ok (.int d, 0) | none => .fail
  | (.tup xs, k), (.int i, _) => match atI xs i with | some d => .ok (d, lvlOf d (pr k)) | none => .fail
  | (.str s, _), (.int i, _) => if s.length ≤ sizeLine then match atI s.cps.toList i with | some c => .ok (.str ⟨#[c]⟩, 0) | none => .fail else .fail
  | (.dct t kvs, k), (y, _) => if keyOk t kvs y then match dget y kvs with | some d => .ok (d, lvlOf d (pr k)) | none => .fail else .fail
  | _, _ => .fail
def cutD (xs : List D) (lo hi : Option Int) : List D := (xs.drop (HT.sIx xs.length 0 lo)).take (HT.sIx xs.length xs.length hi - HT.sIx xs.length 0 lo)
def evSlc (x : DL) (lo hi : Option Int) : R DL :=
  match x with
  | (.lst xs, k) => .ok (.lst (cutD xs lo hi), upL (pr k))
  | (.tup xs, k) => .ok (.tup (cutD xs lo hi), k)
  | (.str s, _) => if s.length ≤ sizeLine then .ok (.str (cutS s lo hi), 0) else .fail
  | _ => .fail

/-! ### built-in functions, methods -/
inductive Blt where
  | len | abs | min | max | int | str | sum | all | any | sorted | list | tuple | dict | isTup
  deriving DecidableEq
def sortI (ns : List Int) : List Int := ns.mergeSort fun a b => decide (a ≤ b)
def keysD (kvs : List (D × D)) : List D := kvs.map (·.1)
def maxL (ns : List Int) : Int := ns.tail.foldl (fun m x => if x > m then x else m) (ns.headD 0)
def minL (ns : List Int) : Int := ns.tail.foldl (fun m x => if x < m then x else m) (ns.headD 0)
def dput (kvs : List (D × D)) (y d : D) : List (D × D) :=
  if (dget y kvs).isSome then kvs.map fun p => if keyEq p.1 y then (p.1, d) else p else kvs ++ [(y, d)]
def evBlt (b : Blt) (xs : List DL) : R DL :=
  match b, xs with
  | .len, [(.lst xs, _)] => .ok (.int xs.length, 0)
  | .len, [(.tup xs, _)] => .ok (.int xs.length, 0)
  | .len, [(.scr xs, _)] => .ok (.int xs.length, 0)
  | .len, [(.dct _ xs, _)] => if strHd xs then .fail else .ok (.int xs.length, 0)
  | .len, [(.str s, _)] => if s.length ≤ sizeLine then .ok (.int s.length, 0) else .fail
  | .abs, [(.int i, _)] => .ok (.int (if i < 0 then -i else i), 0)
  | .min, [(.int i, _), (.int j, _)] => .ok (.int (if j < i then j else i), 0)
  | .max, [(.int i, _), (.int j, _)] => .ok (.int (if j > i then j else i), 0)
  | .min, [(.lst ds, _)] => match asInts ds with | some (n :: ns) => .ok (.int (minL (n :: ns)), 0) | _ => .fail
  | .max, [(.lst ds, _)] => match asInts ds with | some (n :: ns) => .ok (.int (maxL (n :: ns)), 0) | _ => .fail
  | .int, [(.int i, _)] => .ok (.int i, 0)
  | .int, [(.bl b, _)] => .ok (.int (if b then 1 else 0), 0)
  | .str, [(.int i, _)] => if decide (i.natAbs.log2 < 1920) then .ok (.str (toString i), 0) else .fail
  | .str, [(.str s, _)] => .ok (.str s, 0)
  | .sum, [(.lst ds, _)] => match asInts ds with | some ns => .ok (.int ns.sum, 0) | _ => .fail
  | .all, [(.lst ds, _)] => match asBls ds with | some bs => .ok (.bl (bs.all id), 0) | _ => .fail
  | .any, [(.lst ds, _)] => match asBls ds with | some bs => .ok (.bl (bs.any id), 0) | _ => .fail
  | .sorted, [(.lst ds, _)] => match asInts ds with | some ns => .ok (.lst ((sortI ns).map .int), 0) | _ => .fail
  | .sorted, [(.dct false kvs, _)] => match asInts (keysD kvs) with | some ns => if decide (kvs.length ≤ 1000000) then .ok (.lst ((sortI ns).map .int), 0) else .fail | _ => .fail
  | .list, [(.lst ds, k)] => .ok (.lst ds, upL (pr k))
  | .list, [(.tup ds, k)] => .ok (.lst ds, upL (pr k))
  | .tuple, [(.lst ds, k)] => .ok (.tup ds, upL (pr k))
  | .tuple, [(.tup ds, k)] => .ok (.tup ds, k)
  | .dict, [(.dct false kvs, k)] => if strHd kvs then .fail else .ok (.dct false kvs, upL (pr k))
  | .dict, [(.lst ds, k)] => match asPairs ds with
    | some ps => if ps.all (fun p => p.1.key.isSome) then .ok (.dct false (ps.foldl (fun m p => dput m p.1 p.2) []), upL (pr (pr k))) else .fail
    | none => .fail
  | .list, [(.dct false kvs, _)] => if strHd kvs then .fail else .ok (.lst (keysD kvs), 0)
  | .isTup, [(d, _)] => match d with
    | .tup _ => .ok (.bl true, 0)
    | .dct true _ => .fail
    | .obj _ => .fail
    | .scr _ => .fail
    | _ => .ok (.bl false, 0)
  | _, _ => .fail
inductive Mth where
  | get | index | count | join | split | replace | isdigit
  deriving DecidableEq
def evMth (m : Mth) (x : DL) (xs : List DL) : R DL :=
  match m, x, xs with
  | .get, (.dct t kvs, k), [(y, _)] => if keyOk t kvs y then match dget y kvs with | some d => .ok (d, lvlOf d (pr k)) | none => .ok (.non, 0) else .fail
  | .get, (.dct t kvs, k), [(y, _), (e, l)] => if keyOk t kvs y then match dget y kvs with | some d => .ok (d, lvlOf d (pr k)) | none => .ok (e, l) else .fail
  | .index, (.tup ds, _), [(.str s, _)] => match asStrs ds with | some zs => (match zs.findIdx? (fun z => decide (z = s)) with | some j => .ok (.int j, 0) | none => .fail) | none => .fail
  | _, _, _ => .fail
end Ev
set_option Elab.async false
set_option linter.all false
set_option maxRecDepth 100000
/-! Ev3: terms and what they mean. -/
namespace Ev
open PySem PySem.Spec PyProof.Rows L2

/-- a plain target: names (slots), tuples of them -/
inductive Tg where
  | nm (i : Nat) (x : Str) (p : Pos)
  | tp (ts : List Tg) (k : Nat) (p : Pos)
mutual
inductive E where
  | var (i : Nat) (x : Str) (p : Pos)
  | cst (n : Nat) (x : Str) (p : Pos)
  | int (n : Int) (j : Nat) (p : Pos)
  | bl (b : Bool) (j : Nat) (p : Pos)
  | non (j : Nat) (p : Pos)
  | str (s : Str) (j : Nat) (p : Pos)
  | bin (o : Operator) (a b : E) (p : Pos)
  | neg (a : E) (p : Pos)
  | not (a : E) (p : Pos)
  | cmp (o : CmpOp) (a b : E) (p : Pos)
  | chn (o1 o2 : CmpOp) (a b c : E) (p : Pos)
  | and (es : List E) (p : Pos)
  | or (es : List E) (p : Pos)
  | ife (c a b : E) (p : Pos)
  | tup (as : List (Option Pos × E)) (x1 : Nat) (p : Pos)
  | lst (as : List (Option Pos × E)) (p : Pos)
  | dic (kvs : List (E × E)) (p : Pos)
  | dic0 (t : Bool) (p : Pos)
  | sub (a i : E) (p : Pos)
  | slc (a : E) (lo hi : Option E) (p2 p : Pos)
  | rev (a : E) (j : Nat) (p0 p1 p2 p : Pos)
  | call (f : Nat) (x : Str) (as : List E) (p1 p : Pos)
  | blt (b : Blt) (x : Str) (as : List E) (p1 p : Pos)
  | isT (a : E) (p1 p2 p : Pos)
  | cix (n : Nat) (x : Str) (a : E) (p0 p1 p : Pos)
  | mth (m : Mth) (x : Str) (o : E) (as : List E) (p1 p : Pos)
  | lsI (it : I) (x : Str) (p1 p : Pos)
  | lc (elt : E) (tg : Tg) (it : I) (ifs : List E) (sc : Scope) (own : List (Str × Nat)) (p : Pos)
  | dc (kx vx : E) (t : Bool) (tg : Tg) (it : I) (ifs : List E) (sc : Scope) (own : List (Str × Nat)) (p : Pos)
inductive I where
  | ex (e : E)
  | rg1 (a : E) (p1 p : Pos)
  | rg2 (a b : E) (p1 p : Pos)
  | enu (e : E) (p1 p : Pos)
  | zip (a b : E) (p1 p : Pos)
end

mutual
def Tg.py : Tg → Expr
  | .nm _ x p => .Name x p
  | .tp ts k p => .Tuple (Tg.pys ts) k p
def Tg.pys : List Tg → List Expr
  | [] => []
  | t :: ts => t.py :: Tg.pys ts
end
mutual
def E.py : E → Expr
  | .var _ x p => .Name x p
  | .cst _ x p => .Name x p
  | .int n j p => .Constant (.int n) j p
  | .bl b j p => .Constant (.bool b) j p
  | .non j p => .Constant .none j p
  | .str s j p => .Constant (.str s) j p
  | .bin o a b p => .BinOp a.py o b.py p
  | .neg a p => .UnaryOp .USub a.py p
  | .not a p => .UnaryOp .Not a.py p
  | .cmp o a b p => .Compare a.py [o] [b.py] p
  | .chn o1 o2 a b c p => .Compare a.py [o1, o2] [b.py, c.py] p
  | .and es p => .BoolOp .And (E.pys es) p
  | .or es p => .BoolOp .Or (E.pys es) p
  | .ife c a b p => .IfExp c.py a.py b.py p
  | .tup as x1 p => .Tuple (E.pya as) x1 p
  | .lst as p => .List (E.pya as) p
  | .dic kvs p => .Dict (E.pyk kvs) (E.pyv kvs) p
  | .dic0 _ p => .Dict [] [] p
  | .sub a i p => .Subscript a.py i.py p
  | .slc a lo hi p2 p => .Subscript a.py (.Slice (E.pyo lo) (E.pyo hi) none p2) p
  | .rev a j p0 p1 p2 p => .Subscript a.py (.Slice none none (some (.UnaryOp .USub (.Constant (.int 1) j p0) p1)) p2) p
  | .call _ x as p1 p => .Call (.Name x p1) (E.pys as) [] p
  | .blt _ x as p1 p => .Call (.Name x p1) (E.pys as) [] p
  | .isT a p1 p2 p => .Call (.Name "isinstance" p1) [a.py, .Name "tuple" p2] [] p
  | .cix _ x a p0 p1 p => .Call (.Attribute (.Name x p0) "index" p1) [a.py] [] p
  | .mth _ x o as p1 p => .Call (.Attribute o.py x p1) (E.pys as) [] p
  | .lsI it x p1 p => .Call (.Name x p1) [it.py] [] p
  | .lc elt tg it ifs sc _ p => .ListComp elt.py [⟨tg.py, it.py, E.pys ifs, 0⟩] sc p
  | .dc kx vx _ tg it ifs sc _ p => .DictComp kx.py vx.py [⟨tg.py, it.py, E.pys ifs, 0⟩] sc p
def E.pys : List E → List Expr
  | [] => []
  | e :: es => e.py :: E.pys es
def E.pya : List (Option Pos × E) → List Expr
  | [] => []
  | (none, e) :: es => e.py :: E.pya es
  | (some p, e) :: es => .Starred e.py p :: E.pya es
def E.pyk : List (E × E) → List (Option Expr)
  | [] => []
  | (k, _) :: es => some k.py :: E.pyk es
def E.pyv : List (E × E) → List Expr
  | [] => []
  | (_, v) :: es => v.py :: E.pyv es
def E.pyo : Option E → Option Expr
  | none => none
  | some e => some e.py
def I.py : I → Expr
  | .ex e => e.py
  | .rg1 a p1 p => .Call (.Name "range" p1) [a.py] [] p
  | .rg2 a b p1 p => .Call (.Name "range" p1) [a.py, b.py] [] p
  | .enu e p1 p => .Call (.Name "enumerate" p1) [e.py] [] p
  | .zip a b p1 p => .Call (.Name "zip" p1) [a.py, b.py] [] p
end

/-! ### meaning -/
/-- functions that read data alone -/
abbrev Fns := Nat → List D → R D
mutual
def Tg.bind : Tg → D → Nat → Env → Option Env
  | .nm i _ _, d, k, ρ => if i < ρ.length then some (ρ.set i (some (.bor d k))) else none
  | .tp ts _ _, .tup ds, k, ρ => Tg.binds ts ds (pr k) ρ
  | .tp _ _ _, _, _, _ => none
def Tg.binds : List Tg → List D → Nat → Env → Option Env
  | [], [], _, ρ => some ρ
  | t :: ts, d :: ds, k, ρ => match t.bind d (lvlOf d k) ρ with
    | some ρ' => Tg.binds ts ds k ρ'
    | none => none
  | _, _, _, _ => none
end
def maxLv : List DL → Nat
  | [] => 0
  | x :: xs => max x.2 (maxLv xs)
/-- a call's result -/
def callD (Γ : Fns) (f : Nat) (xs : List DL) : R DL :=
  match Γ f (xs.map (·.1)) with
  | .ok d => .ok (d, lvlOf d (if maxLv xs = 0 then 0 else 1000))
  | .exc c a => if a.isScal then .exc c a else .fail
  | .fail => .fail
def cixOk : D → Bool
  | .tup ds => (asStrs ds).isSome
  | _ => false
def mthRcv : Mth → DL → Bool
  | .get, (.dct _ _, _) => true
  | _, _ => false
/-- the items a for walks -/
def itemsOf : DL → R (List DL)
  | (.lst ds, k) => .ok (ds.map fun d => (d, lvlOf d (pr k)))
  | (.tup ds, k) => .ok (ds.map fun d => (d, lvlOf d (pr k)))
  | (.str s, _) => .ok (s.cps.toList.map fun c => (.str ⟨#[c]⟩, 0))
  | _ => .fail
def rangeI (a : Int) (n : Nat) : List DL := (List.range n).map fun (i : Nat) => (D.int (a + (i : Int)), 0)
def small62 (i : Int) : Bool := decide (-(2 ^ 62) ≤ i) && decide (i < 2 ^ 62)
def enumI : Nat → List DL → List DL
  | _, [] => []
  | i, x :: xs => (.tup [.int i, x.1], upL x.2) :: enumI (i + 1) xs
def zipI : List DL → List DL → List DL
  | x :: xs, y :: ys => (.tup [x.1, y.1], upL (max x.2 y.2)) :: zipI xs ys
  | _, _ => []
def wipeE (ρ : Env) : List Nat → Env
  | [] => ρ
  | v :: vs => (wipeE ρ vs).set v none
/-- a comprehension's walk: tests t, element f -/
def lcLoop {α : Type} (bind : D → Nat → Env → Option Env) (t : Env → R Bool) (f : Env → R α) (ρ : Env) : List DL → R (List α)
  | [] => .ok []
  | x :: xs => match bind x.1 x.2 ρ with
    | none => .fail
    | some ρ' => match t ρ' with
      | .ok true => match f ρ' with
        | .ok a => match lcLoop bind t f ρ xs with
          | .ok as => .ok (a :: as)
          | _ => .fail
        | _ => .fail
      | .ok false => lcLoop bind t f ρ xs
      | _ => .fail
def asB : R DL → R Bool
  | .ok (.bl b, _) => .ok b
  | .ok _ => .fail
  | .exc c a => .exc c a
  | .fail => .fail
def asI : R DL → R Int
  | .ok (.int b, _) => .ok b
  | .ok _ => .fail
  | .exc c a => .exc c a
  | .fail => .fail
/-- an expression's truth -/
def truD : DL → R Bool
  | (.bl b, _) => .ok b
  | (.non, _) => .ok false
  | (.int i, _) => .ok (i != 0)
  | (.lst xs, _) => .ok (!xs.isEmpty)
  | (.tup xs, _) => .ok (!xs.isEmpty)
  | _ => .fail
def litD (kvs : List (D × DL)) : Option (List (D × D) × Nat) := kvs.foldl (fun acc p => match acc with
  | some (m, k) => if p.1.key.isSome then some (dput m p.1 p.2.1, max k p.2.2) else none
  | none => none) (some ([], 0))
section
variable (C : Nat → D) (Γ : Fns)
mutual
def evE : E → Env → R DL
  | .var i _ _, ρ => match ρ[i]? with
    | some (some t) => .ok (t.toD, t.lvl)
    | _ => .fail
  | .cst n _ _, _ => .ok (C n, 0)
  | .int n _ _, _ => .ok (.int n, 0)
  | .bl b _ _, _ => .ok (.bl b, 0)
  | .non _ _, _ => .ok (.non, 0)
  | .str s _ _, _ => .ok (.str s, 0)
  | .bin o a b _, ρ => do evBin o (← evE a ρ) (← evE b ρ)
  | .neg a _, ρ => do evNeg (← evE a ρ)
  | .not a _, ρ => do
    let b ← truD (← evE a ρ)
    .ok (.bl (!b), 0)
  | .cmp o a b _, ρ => do
    let c ← evCmp o (← evE a ρ) (← evE b ρ)
    .ok (.bl c, 0)
  | .chn o1 o2 a b c _, ρ => do
    let x ← evE a ρ
    let y ← evE b ρ
    let r ← evCmp o1 x y
    match r with
    | true => do
      let r2 ← evCmp o2 y (← evE c ρ)
      .ok (.bl r2, 0)
    | false => .ok (.bl false, 0)
  | .and es _, ρ => evAnd es ρ
  | .or es _, ρ => evOr es ρ
  | .ife c a b _, ρ => do
    let r ← truD (← evE c ρ)
    match r with
    | true => evE a ρ
    | false => evE b ρ
  | .tup as _ _, ρ => do
    let xs ← evAs as ρ
    if xs.length ≤ sizeLine then .ok (.tup (xs.map (·.1)), upL (maxLv xs)) else .fail
  | .lst as _, ρ => do
    let xs ← evAs as ρ
    if xs.length ≤ sizeLine then .ok (.lst (xs.map (·.1)), upL (maxLv xs)) else .fail
  | .dic kvs _, ρ => do
    let xs ← evKs kvs ρ
    match litD xs with
    | some (m, k) => .ok (.dct false m, upL k)
    | none => .fail
  | .dic0 t _, _ => .ok (.dct t [], 0)
  | .sub a i _, ρ => do evIdx (← evE a ρ) (← evE i ρ)
  | .slc a lo hi _ _, ρ => do
    let x ← evE a ρ
    let l ← evO lo ρ
    let h ← evO hi ρ
    evSlc x l h
  | .rev a _ _ _ _ _, ρ => do
    match (← evE a ρ) with
    | (.lst ds, k) => .ok (.lst ds.reverse, upL (pr k))
    | _ => .fail
  | .call f _ as _ _, ρ => do
    let xs ← evEs as ρ
    callD Γ f xs
  | .blt b _ as _ _, ρ => do evBlt b (← evEs as ρ)
  | .isT a _ _ _, ρ => do evBlt .isTup [← evE a ρ]
  | .cix n _ a _ _ _, ρ => match cixOk (C n) with
    | true => do evMth .index (C n, 0) [← evE a ρ]
    | false => .fail
  | .mth m _ o as _ _, ρ => do
    let x ← evE o ρ
    match mthRcv m x with
    | true => do evMth m x (← evEs as ρ)
    | false => .fail
  | .lsI it _ _ _, ρ => do
    let xs ← evI it ρ
    .ok (.lst (xs.map (·.1)), upL (maxLv xs))
  | .lc elt tg it ifs _ own _, ρ => do
    let xs ← evI it ρ
    let ys ← lcLoop tg.bind (fun ρ' => evIfs ifs ρ') (fun ρ' => evE elt ρ') (wipeE ρ (own.map (·.2))) xs
    if ys.length ≤ sizeLine then .ok (.lst (ys.map (·.1)), upL (maxLv ys)) else .fail
  | .dc kx vx _ tg it ifs _ own _, ρ => do
    let xs ← evI it ρ
    let ys ← lcLoop tg.bind (fun ρ' => evIfs ifs ρ') (fun ρ' => do
      let k ← evE kx ρ'
      let v ← evE vx ρ'
      .ok (k.1, v)) (wipeE ρ (own.map (·.2))) xs
    match litD ys with
    | some (m, k) => if ys.length ≤ sizeLine then .ok (.dct false m, upL k) else .fail
    | none => .fail
def evEs : List E → Env → R (List DL)
  | [], _ => .ok []
  | e :: es, ρ => do
    let x ← evE e ρ
    let xs ← evEs es ρ
    .ok (x :: xs)
def evAs : List (Option Pos × E) → Env → R (List DL)
  | [], _ => .ok []
  | (none, e) :: es, ρ => do
    let x ← evE e ρ
    let xs ← evAs es ρ
    .ok (x :: xs)
  | (some _, e) :: es, ρ => do
    match (← evE e ρ) with
    | (.lst ds, k) => do
      let xs ← evAs es ρ
      .ok (ds.map (fun d => (d, lvlOf d (pr k))) ++ xs)
    | (.tup ds, k) => do
      let xs ← evAs es ρ
      .ok (ds.map (fun d => (d, lvlOf d (pr k))) ++ xs)
    | _ => .fail
def evKs : List (E × E) → Env → R (List (D × DL))
  | [], _ => .ok []
  | (k, v) :: es, ρ => do
    let x ← evE k ρ
    let y ← evE v ρ
    let xs ← evKs es ρ
    .ok ((x.1, y) :: xs)
def evO : Option E → Env → R (Option Int)
  | none, _ => .ok none
  | some e, ρ => match evE e ρ with
    | .ok (.int i, _) => .ok (some i)
    | .ok _ => .fail
    | .exc c a => .exc c a
    | .fail => .fail
def evAnd : List E → Env → R DL
  | [], _ => .fail
  | [e], ρ => evE e ρ
  | e :: es, ρ => do
    match (← evE e ρ) with
    | (.bl true, _) => evAnd es ρ
    | (.bl false, _) => .ok (.bl false, 0)
    | _ => .fail
def evOr : List E → Env → R DL
  | [], _ => .fail
  | [e], ρ => evE e ρ
  | e :: es, ρ => do
    match (← evE e ρ) with
    | (.bl false, _) => evOr es ρ
    | (.bl true, _) => .ok (.bl true, 0)
    | _ => .fail
def evIfs : List E → Env → R Bool
  | [], _ => .ok true
  | [e], ρ => do truD (← evE e ρ)
  | _, _ => .fail
def evI : I → Env → R (List DL)
  | .ex e, ρ => do itemsOf (← evE e ρ)
  | .rg1 a _ _, ρ => do
    let n ← asI (evE a ρ)
    if small62 n then .ok (rangeI 0 n.toNat) else .fail
  | .rg2 a b _ _, ρ => do
    let m ← asI (evE a ρ)
    let n ← asI (evE b ρ)
    if small62 m && small62 n then .ok (rangeI m (n - m).toNat) else .fail
  | .enu e _ _, ρ => do
    match (← evE e ρ) with
    | (.lst ds, k) => .ok (enumI 0 (ds.map fun d => (d, lvlOf d (pr k))))
    | _ => .fail
  | .zip a b _ _, ρ => do
    let xs ← itemsOf (← evE a ρ)
    let ys ← itemsOf (← evE b ρ)
    .ok (zipI xs ys)
end
end
end Ev
set_option Elab.async false
set_option linter.all false
set_option maxRecDepth 100000
set_option maxHeartbeats 1000000
/-! Ev4: equality of deep data. -/
namespace Ev
open PySem PySem.Spec PyProof.Rows L2
section
variable {X : Cx} {pins : List (Addr × Obj)} {σ : L2.St} {H : Hp} {s : Shared} {R : RE}

theorem list_not_tuple {h : Heap} {a : Addr} {xs ys : Array Value} (p : PlainL h a xs) (q : IsTup h a ys) : False := by
  obtain ⟨o, n, e, c, _, d⟩ := p
  obtain ⟨o', e', c', _⟩ := q
  rw [e] at e'
  cases e'
  rw [c] at c'
  exact absurd c' (by decide)

mutual
/-- what lies at a value is one -/
theorem rep_inj (I : Inv X pins σ H s) (x : RIn R H) (eK : R.K = X.K) : ∀ (d e : D) (j k : Nat) (v : V), d.dep < 1000 → e.dep < 1000 → Rep R j d v → Rep R k e v → d = e
  | .non, e, j, k, v, _, he, h, g => by
    cases h
    cases e <;> simp only [Rep] at g <;> first | rfl | (simp [D.dep] at he; done) | (simp at g)
  | .bl b, e, j, k, v, _, he, h, g => by
    cases h
    cases e <;> simp only [Rep] at g <;> first | (cases g; rfl) | (simp [D.dep] at he; done) | (simp at g)
  | .int b, e, j, k, v, _, he, h, g => by
    cases h
    cases e <;> simp only [Rep] at g <;> first | (cases g; rfl) | (simp [D.dep] at he; done) | (simp at g)
  | .str b, e, j, k, v, _, he, h, g => by
    cases h
    cases e <;> simp only [Rep] at g <;> first | (cases g; rfl) | (simp [D.dep] at he; done) | (simp at g)
  | .tup xs, e, j, k, v, hd, he, h, g => by
    obtain ⟨a, vs, rfl, t, r⟩ := h
    have t1 := eK ▸ x.tup t
    cases e with
    | tup ys =>
      obtain ⟨a', vs', e1, t', r'⟩ := g
      cases e1
      have t2 := eK ▸ x.tup t'
      have := I.tuple_inj t1 t2
      subst this
      rw [reps_inj I x eK xs ys _ _ vs (by simp only [D.dep] at hd; omega) (by simp only [D.dep] at he; omega) r r']
    | lst ys =>
      obtain ⟨a', vs', e1, t', r'⟩ := g
      cases e1
      have t2 := eK ▸ x.lst t'
      obtain ⟨_, _, p, _⟩ := I.tuple t1
      obtain ⟨_, _, q, _⟩ := I.list t2
      exact (list_not_tuple q p).elim
    | dct _ _ => simp [D.dep] at he
    | obj _ => simp [D.dep] at he
    | scr _ => simp [D.dep] at he
    | non => simp [Rep] at g
    | bl _ => simp [Rep] at g
    | int _ => simp [Rep] at g
    | str _ => simp [Rep] at g
  | .lst xs, e, j, k, v, hd, he, h, g => by
    obtain ⟨a, vs, rfl, t, r⟩ := h
    have t1 := eK ▸ x.lst t
    cases e with
    | lst ys =>
      obtain ⟨a', vs', e1, t', r'⟩ := g
      cases e1
      have t2 := eK ▸ x.lst t'
      have := I.list_inj t1 t2
      subst this
      rw [reps_inj I x eK xs ys _ _ vs (by simp only [D.dep] at hd; omega) (by simp only [D.dep] at he; omega) r r']
    | tup ys =>
      obtain ⟨a', vs', e1, t', r'⟩ := g
      cases e1
      have t2 := eK ▸ x.tup t'
      obtain ⟨_, _, p, _⟩ := I.tuple t2
      obtain ⟨_, _, q, _⟩ := I.list t1
      exact (list_not_tuple q p).elim
    | dct _ _ => simp [D.dep] at he
    | obj _ => simp [D.dep] at he
    | scr _ => simp [D.dep] at he
    | non => simp [Rep] at g
    | bl _ => simp [Rep] at g
    | int _ => simp [Rep] at g
    | str _ => simp [Rep] at g
  | .dct _ _, _, _, _, _, hd, _, _, _ => by simp [D.dep] at hd
  | .obj _, _, _, _, _, hd, _, _, _ => by simp [D.dep] at hd
  | .scr _, _, _, _, _, hd, _, _, _ => by simp [D.dep] at hd
theorem reps_inj (I : Inv X pins σ H s) (x : RIn R H) (eK : R.K = X.K) : ∀ (ds es : List D) (j k : Nat) (vs : List V), D.deps ds < 1000 → D.deps es < 1000 → Reps R j ds vs → Reps R k es vs → ds = es
  | [], es, j, k, vs, _, _, h, g => by
    cases h
    cases es with
    | nil => rfl
    | cons e es => obtain ⟨_, _, q, _⟩ := g; cases q
  | d :: ds, es, j, k, vs, hd, he, h, g => by
    obtain ⟨v, r, rfl, h1, h2⟩ := h
    cases es with
    | nil => cases g
    | cons e es =>
      obtain ⟨v', r', q, g1, g2⟩ := g
      cases q
      simp only [D.deps] at hd he
      rw [rep_inj I x eK d e j k v (by omega) (by omega) h1 g1, reps_inj I x eK ds es j k r (by omega) (by omega) h2 g2]
end
mutual
theorem deq_refl : ∀ d : D, d.dep < 1000 → deq d d = true
  | .non, _ => rfl
  | .bl b, _ => by simp [deq]
  | .int i, _ => by simp [deq]
  | .str x, _ => by simp [deq]
  | .tup xs, h => by simp only [deq]; exact deqs_refl xs (by simp only [D.dep] at h; omega)
  | .lst xs, h => by simp only [deq]; exact deqs_refl xs (by simp only [D.dep] at h; omega)
  | .dct _ _, h => by simp [D.dep] at h
  | .obj _, h => by simp [D.dep] at h
  | .scr _, h => by simp [D.dep] at h
theorem deqs_refl : ∀ ds : List D, D.deps ds < 1000 → deqs ds ds = true
  | [], _ => rfl
  | d :: ds, h => by
    simp only [D.deps] at h
    simp only [deqs, deq_refl d (by omega), deqs_refl ds (by omega), Bool.and_self]
end
/-- the j-th pair's answer -/
def pairD : List D → List D → Nat → Bool
  | x :: _, y :: _, 0 => deq x y
  | _ :: xs, _ :: ys, j + 1 => pairD xs ys j
  | _, _, _ => false
theorem all_succ (n : Nat) (f : Nat → Bool) : (List.range (n + 1)).all f = (f 0 && (List.range n).all fun j => f (j + 1)) := by
  rw [List.range_succ_eq_map, List.all_cons, List.all_map]
  rfl
theorem deqs_pairs : ∀ xs ys : List D, ((List.range (min xs.length ys.length)).all (pairD xs ys) && xs.length == ys.length) = deqs xs ys
  | [], [] => by simp [deqs]
  | [], _ :: _ => by simp [deqs]
  | _ :: _, [] => by simp [deqs]
  | x :: xs, y :: ys => by
    have ih := deqs_pairs xs ys
    rw [List.length_cons, List.length_cons, Nat.succ_min_succ, all_succ]
    simp only [deqs, pairD]
    rw [← ih, Bool.and_assoc]
    congr 2
    by_cases h : xs.length = ys.length
    · simp [h]
    · have : ¬ xs.length + 1 = ys.length + 1 := by omega
      simp [h]
theorem deqs_len {xs ys : List D} (h : xs.length = ys.length) : (List.range xs.length).all (pairD xs ys) = deqs xs ys := by
  have := deqs_pairs xs ys
  rw [h, Nat.min_self] at this
  rw [h, ← this]
  simp
theorem deqs_nolen {xs ys : List D} (h : xs.length ≠ ys.length) : deqs xs ys = false := by
  rw [← deqs_pairs xs ys]
  simp [h]
theorem PlainL.isList {h : Heap} {a : Addr} {xs : Array Value} (p : PlainL h a xs) : h.IsList a xs := by
  obtain ⟨o, n, e, c, _, d⟩ := p
  exact ⟨o, e, c, n, d⟩

mutual
theorem deq_run (I : Inv X pins σ H s) (x : RIn R H) (eK : R.K = X.K) : ∀ (d e : D) (A : Around) (j k : Nat) (v u : V) (a b : Value), d.dep < 1000 → e.dep < 1000 → A.units + d.dep < cLine →
    Rep R j d v → Rep R k e u → RelV v a → RelV u b → SeqAt.EqAt A s a b (deq d e)
  | .non, e, A, j, k, v, u, a, b, hd, he, hu, h, g, ra, rb => by
    cases h
    cases ra
    cases e with
    | non => cases g; cases rb; exact SeqAt.EqAt.same _
    | bl y => cases g; cases rb; exact SeqAt.EqAt.none_bool y
    | int y => cases g; obtain ⟨t, rfl⟩ := rb; exact SeqAt.EqAt.none_int y t
    | str y => cases g; obtain ⟨t, rfl⟩ := rb; exact SeqAt.EqAt.none_str y t
    | tup ys =>
      obtain ⟨q, vs, rfl, t, _⟩ := g
      cases rb
      obtain ⟨_, _, p, _⟩ := I.tuple (eK ▸ x.tup t)
      exact SeqAt.EqAt.none_tuple p (by omega)
    | lst ys =>
      obtain ⟨q, vs, rfl, t, _⟩ := g
      cases rb
      obtain ⟨_, _, p, _⟩ := I.list (eK ▸ x.lst t)
      exact SeqAt.EqAt.none_list p.isList (by omega)
    | dct _ _ => simp [D.dep] at he
    | obj _ => simp [D.dep] at he
    | scr _ => simp [D.dep] at he
  | .bl c, e, A, j, k, v, u, a, b, hd, he, hu, h, g, ra, rb => by
    cases h
    cases ra
    cases e with
    | non => cases g; cases rb; exact SeqAt.EqAt.bool_none c
    | bl y => cases g; cases rb; exact SeqAt.EqAt.bool_bool c y
    | int y => cases g; obtain ⟨t, rfl⟩ := rb; exact SeqAt.EqAt.bool_int c y t
    | str y => cases g; obtain ⟨t, rfl⟩ := rb; exact SeqAt.EqAt.bool_str c y t
    | tup ys =>
      obtain ⟨q, vs, rfl, t, _⟩ := g
      cases rb
      obtain ⟨_, _, p, _⟩ := I.tuple (eK ▸ x.tup t)
      exact SeqAt.EqAt.bool_tuple c p (by omega)
    | lst ys =>
      obtain ⟨q, vs, rfl, t, _⟩ := g
      cases rb
      obtain ⟨_, _, p, _⟩ := I.list (eK ▸ x.lst t)
      exact SeqAt.EqAt.bool_list c p.isList (by omega)
    | dct _ _ => simp [D.dep] at he
    | obj _ => simp [D.dep] at he
    | scr _ => simp [D.dep] at he
  | .int c, e, A, j, k, v, u, a, b, hd, he, hu, h, g, ra, rb => by
    cases h
    obtain ⟨t0, rfl⟩ := ra
    cases e with
    | non => cases g; cases rb; exact SeqAt.EqAt.int_none c t0
    | bl y => cases g; cases rb; exact SeqAt.EqAt.int_bool c t0 y
    | int y => cases g; obtain ⟨t, rfl⟩ := rb; exact SeqAt.EqAt.int_int c t0 y t
    | str y => cases g; obtain ⟨t, rfl⟩ := rb; exact SeqAt.EqAt.int_str c t0 y t
    | tup ys =>
      obtain ⟨q, vs, rfl, t, _⟩ := g
      cases rb
      obtain ⟨_, _, p, _⟩ := I.tuple (eK ▸ x.tup t)
      exact SeqAt.EqAt.int_tuple c t0 p (by omega)
    | lst ys =>
      obtain ⟨q, vs, rfl, t, _⟩ := g
      cases rb
      obtain ⟨_, _, p, _⟩ := I.list (eK ▸ x.lst t)
      exact SeqAt.EqAt.int_list c t0 p.isList (by omega)
    | dct _ _ => simp [D.dep] at he
    | obj _ => simp [D.dep] at he
    | scr _ => simp [D.dep] at he
  | .str c, e, A, j, k, v, u, a, b, hd, he, hu, h, g, ra, rb => by
    cases h
    obtain ⟨t0, rfl⟩ := ra
    cases e with
    | non => cases g; cases rb; exact SeqAt.EqAt.str_none c t0
    | bl y => cases g; cases rb; exact SeqAt.EqAt.str_bool c t0 y
    | int y => cases g; obtain ⟨t, rfl⟩ := rb; exact SeqAt.EqAt.str_int c t0 y t
    | str y =>
      cases g
      obtain ⟨t, rfl⟩ := rb
      have := SeqAt.EqAt.str_str (A := A) (s := s) c t0 y t
      show SeqAt.EqAt A s _ _ (decide (c = y))
      have e : decide (c = y) = (c == y) := by by_cases q : c = y <;> simp [q]
      rw [e]; exact this
    | tup ys =>
      obtain ⟨q, vs, rfl, t, _⟩ := g
      cases rb
      obtain ⟨_, _, p, _⟩ := I.tuple (eK ▸ x.tup t)
      exact SeqAt.EqAt.str_tuple c t0 p (by omega)
    | lst ys =>
      obtain ⟨q, vs, rfl, t, _⟩ := g
      cases rb
      obtain ⟨_, _, p, _⟩ := I.list (eK ▸ x.lst t)
      exact SeqAt.EqAt.str_list c t0 p.isList (by omega)
    | dct _ _ => simp [D.dep] at he
    | obj _ => simp [D.dep] at he
    | scr _ => simp [D.dep] at he
  | .tup xs, e, A, j, k, v, u, a, b, hd, he, hu, h, g, ra, rb => by
    have h0 := h
    obtain ⟨l, vs, rfl, t, r⟩ := h
    cases ra
    obtain ⟨its, r1, p1, _⟩ := I.tuple (eK ▸ x.tup t)
    have hu1 : A.units < cLine := by omega
    cases e with
    | non => cases g; cases rb; exact SeqAt.EqAt.tuple_none p1 hu1
    | bl y => cases g; cases rb; exact SeqAt.EqAt.tuple_bool y p1 hu1
    | int y => cases g; obtain ⟨t, rfl⟩ := rb; exact SeqAt.EqAt.tuple_int y t p1 hu1
    | str y => cases g; obtain ⟨t, rfl⟩ := rb; exact SeqAt.EqAt.tuple_str y t p1 hu1
    | lst ys =>
      obtain ⟨q, ws, rfl, t', _⟩ := g
      cases rb
      obtain ⟨_, _, p, _⟩ := I.list (eK ▸ x.lst t')
      exact SeqAt.EqAt.tuple_list p1 p.isList hu1
    | tup ys =>
      have g0 := g
      obtain ⟨q, ws, rfl, t', r'⟩ := g
      cases rb
      obtain ⟨its', r1', p1', _⟩ := I.tuple (eK ▸ x.tup t')
      by_cases hll : l = q
      · subst hll
        have e := rep_inj I x eK (.tup xs) (.tup ys) _ _ _ hd he h0 g0
        rw [← e, deq_refl _ hd]
        exact SeqAt.EqAt.same _
      · have n1 : its.toArray.size = xs.length := by rw [List.size_toArray, ← r1.length, r.length]
        have n2 : its'.toArray.size = ys.length := by rw [List.size_toArray, ← r1'.length, r'.length]
        show SeqAt.EqAt A s _ _ (deqs xs ys)
        rw [← deqs_pairs xs ys, ← n1, ← n2]
        refine SeqAt.EqAt.of_refs hll (SeqAt.RcAt.tuples p1 p1' hu1 fun m h1 h2 => ?_)
        have := deqs_run I x eK xs ys A.in1 _ _ vs ws its its' (by simp only [D.dep] at hd; omega) (by simp only [D.dep] at he; omega)
          (by show A.units + 1 + D.deps xs < cLine; simp only [D.dep] at hu; omega) r r' r1 r1' m (by simpa using h1) (by simpa using h2)
        simpa using this
    | dct _ _ => simp [D.dep] at he
    | obj _ => simp [D.dep] at he
    | scr _ => simp [D.dep] at he
  | .lst xs, e, A, j, k, v, u, a, b, hd, he, hu, h, g, ra, rb => by
    have h0 := h
    obtain ⟨l, vs, rfl, t, r⟩ := h
    cases ra
    obtain ⟨its, r1, p1, _⟩ := I.list (eK ▸ x.lst t)
    have hu1 : A.units < cLine := by omega
    cases e with
    | non => cases g; cases rb; exact SeqAt.EqAt.list_none p1.isList hu1
    | bl y => cases g; cases rb; exact SeqAt.EqAt.list_bool y p1.isList hu1
    | int y => cases g; obtain ⟨t, rfl⟩ := rb; exact SeqAt.EqAt.list_int y t p1.isList hu1
    | str y => cases g; obtain ⟨t, rfl⟩ := rb; exact SeqAt.EqAt.list_str y t p1.isList hu1
    | tup ys =>
      obtain ⟨q, ws, rfl, t', _⟩ := g
      cases rb
      obtain ⟨_, _, p, _⟩ := I.tuple (eK ▸ x.tup t')
      exact SeqAt.EqAt.list_tuple p1.isList p hu1
    | lst ys =>
      have g0 := g
      obtain ⟨q, ws, rfl, t', r'⟩ := g
      cases rb
      obtain ⟨its', r1', p1', _⟩ := I.list (eK ▸ x.lst t')
      by_cases hll : l = q
      · subst hll
        have e := rep_inj I x eK (.lst xs) (.lst ys) _ _ _ hd he h0 g0
        rw [← e, deq_refl _ hd]
        exact SeqAt.EqAt.same _
      · have n1 : its.toArray.size = xs.length := by rw [List.size_toArray, ← r1.length, r.length]
        have n2 : its'.toArray.size = ys.length := by rw [List.size_toArray, ← r1'.length, r'.length]
        show SeqAt.EqAt A s _ _ (deqs xs ys)
        by_cases hsz : xs.length = ys.length
        · rw [← deqs_len hsz, ← n1]
          refine SeqAt.EqAt.of_refs hll (SeqAt.RcAt.lists p1.isList p1'.isList (by omega) hu1 fun m h1 h2 => ?_)
          have := deqs_run I x eK xs ys A.in1 _ _ vs ws its its' (by simp only [D.dep] at hd; omega) (by simp only [D.dep] at he; omega)
            (by show A.units + 1 + D.deps xs < cLine; simp only [D.dep] at hu; omega) r r' r1 r1' m (by simpa using h1) (by simpa using h2)
          simpa using this
        · rw [deqs_nolen hsz]
          exact SeqAt.EqAt.of_refs hll (SeqAt.RcAt.lists_lengths p1.isList p1'.isList (by rw [n1, n2]; simpa using hsz) hu1)
    | dct _ _ => simp [D.dep] at he
    | obj _ => simp [D.dep] at he
    | scr _ => simp [D.dep] at he
  | .dct _ _, _, _, _, _, _, _, _, _, hd, _, _, _, _, _, _ => by simp [D.dep] at hd
  | .obj _, _, _, _, _, _, _, _, _, hd, _, _, _, _, _, _ => by simp [D.dep] at hd
  | .scr _, _, _, _, _, _, _, _, _, hd, _, _, _, _, _, _ => by simp [D.dep] at hd
theorem deqs_run (I : Inv X pins σ H s) (x : RIn R H) (eK : R.K = X.K) : ∀ (ds es : List D) (A : Around) (j k : Nat) (vs us : List V) (as bs : List Value), D.deps ds < 1000 → D.deps es < 1000 → A.units + D.deps ds < cLine →
    Reps R j ds vs → Reps R k es us → Vals vs as → Vals us bs → ∀ m (h1 : m < as.length) (h2 : m < bs.length), SeqAt.EqAt A s as[m] bs[m] (pairD ds es m)
  | [], _, _, _, _, _, _, _, _, _, _, _, h, _, ra, _, m, h1, _ => by
    cases h; cases ra; exact absurd h1 (Nat.not_lt_zero _)
  | _ :: _, [], _, _, _, _, _, _, _, _, _, _, _, g, _, rb, m, _, h2 => by
    cases g; cases rb; exact absurd h2 (Nat.not_lt_zero _)
  | d :: ds, e :: es, A, j, k, vs, us, as, bs, hd, he, hu, h, g, ra, rb, m, h1, h2 => by
    obtain ⟨v, r, rfl, hv, hr⟩ := h
    obtain ⟨u, r', rfl, gv, gr⟩ := g
    simp only [D.deps] at hd he hu
    cases ra with
    | cons a1 a2 =>
      cases rb with
      | cons b1 b2 =>
        cases m with
        | zero => exact deq_run I x eK d e A j k v u _ _ (by omega) (by omega) (by omega) hv gv a1 b1
        | succ m => exact deqs_run I x eK ds es A j k r r' _ _ (by omega) (by omega) (by omega) hr gr a2 b2 m (Nat.lt_of_succ_lt_succ h1) (Nat.lt_of_succ_lt_succ h2)
end
end
end Ev
set_option Elab.async false
set_option linter.all false
set_option maxRecDepth 100000
set_option maxHeartbeats 1000000
/-! Ev5: operators are what they are told to be. -/
namespace Ev
open PySem PySem.Spec PyProof.Rows L2
/-- an operation on two values; a call of a value -/
def WO (X : Cx) (f : Value → Value → Sem Value) (x y : V) (H : Hp) (Q : VK) : Prop :=
  ∀ (σ : L2.St) (pins : List (Addr × Obj)) (s : Shared) (v u : Value), Inv X pins σ H s → RelV x v → RelV y u → wpAny (model X.prog X.w) X.A (f v u) (EP X pins σ Q) X.xe s
def WC (X : Cx) (f : Value) (xs : List V) (H : Hp) (Q : VK) : Prop :=
  ∀ (σ : L2.St) (pins : List (Addr × Obj)) (s : Shared) (us : List Value), Inv X pins σ H s → Vals xs us → wpAny (model X.prog X.w) X.A (call f us) (EP X pins σ Q) X.xe s
section
variable {X : Cx} {x y : V} {H : Hp} {Q : VK} {R : RE}
theorem WO.of {f : Value → Value → Sem Value} {r : R2} (h : OpR X f r) (q : r x y H Q) : WO X f x y H Q := fun σ pins s v u I rx ry => h pins s σ H x y v u Q I rx ry q
theorem opR_WO (f : Value → Value → Sem Value) : OpR X f (fun x y H Q => WO X f x y H Q) := fun pins s σ H x y v u Q I rx ry h => h σ pins s v u I rx ry
theorem WC.of {f : Value} {r : List V → Hp → VK → Prop} {xs : List V} (h : CallR X f r) (q : r xs H Q) : WC X f xs H Q := fun σ pins s us I rx => h pins s σ H xs us Q I rx q
theorem callR_WC (f : Value) : CallR X f (fun xs H Q => WC X f xs H Q) := fun pins s σ H xs us Q I r h => h σ pins s us I r

/-- what is wanted of d at level k behind R, H -/
abbrev Good (R : RE) (H : Hp) (r : DL) (Q : VK) : Prop := ∀ v R' H', Post R H R' H' → Rep R' r.2 r.1 v → Q v H'
theorem Good.here {r : DL} {v : V} (g : Good R H r Q) (x : RIn R H) (h : Rep R r.2 r.1 v) : Q v H := g v R H (.refl x) h
theorem Good.newL {ds : List D} {vs : List V} {k : Nat} {p : Addr} (g : Good R H (.lst ds, k) Q) (x : RIn R H) (n : H p = none) (h : Reps R (pr k) ds vs) : Q (.ref p) (upd H p (.lst vs)) :=
  g _ _ _ (.new x k n) (Rep.newL x n h)
theorem Good.newT {ds : List D} {vs : List V} {k : Nat} {p : Addr} (g : Good R H (.tup ds, k) Q) (x : RIn R H) (n : H p = none) (h : Reps R (pr k) ds vs) : Q (.ref p) (upd H p (.tup vs)) :=
  g _ _ _ (.new x k n) (Rep.newT x n h)
theorem pr_upL (m : Nat) (h : m < 1000) : pr (upL m) = if m = 999 then 1000 else m := by
  unfold pr upL
  split <;> split <;> (try split) <;> omega
theorem le_pr_upL (m : Nat) : m ≤ pr (upL m) := by
  unfold pr upL
  split <;> split <;> omega
theorem Reps.upL {ds : List D} {vs : List V} {m : Nat} (x : R.In) (h : Reps R m ds vs) : Reps R (pr (Ev.upL m)) ds vs := Reps.up x _ _ ds vs (le_pr_upL m) h
theorem Reps.lvl {ds : List D} {vs : List V} {j k : Nat} (x : R.In) (h : Reps R j ds vs) (l : j ≤ k) : Reps R k ds vs := Reps.up x _ _ ds vs l h
theorem scal_rep {d : D} {k : Nat} {v : V} (h : Rep R k d v) : Rep R (lvlOf d k) d v := by
  unfold lvlOf
  split
  · cases d with
    | non => exact h
    | bl b => exact h
    | int i => exact h
    | str s => exact h
    | _ => rename_i q; exact absurd q (by simp [D.isScal])
  · exact h

theorem cat_lists (x : RIn R H) {xs ys : List D} {k l : Nat} {v u : V} (hv : Rep R k (.lst xs) v) (hu : Rep R l (.lst ys) u) (hz : xs.length + ys.length ≤ sizeLine)
    (g : Good R H (.lst (xs ++ ys), upL (max (pr k) (pr l))) Q) : WO X (binaryOp .Add) v u H Q := by
  obtain ⟨a, vs, rfl, t, r⟩ := hv
  obtain ⟨b, ws, rfl, t', r'⟩ := hu
  refine WO.of op_cat ⟨a, b, vs, ws, rfl, rfl, x.rdl t, x.rdl t', by rw [← r.length, ← r'.length]; exact hz, fun p n => ?_⟩
  exact g.newL x n (Reps.upL x.inn (Reps.append (r.lvl x.inn (Nat.le_max_left _ _)) (r'.lvl x.inn (Nat.le_max_right _ _))))
theorem cat_tups (x : RIn R H) (eK : R.K = X.K) {xs ys : List D} {k l : Nat} {v u : V} (hv : Rep R k (.tup xs) v) (hu : Rep R l (.tup ys) u) (hz : xs.length + ys.length ≤ sizeLine)
    (g : Good R H (.tup (xs ++ ys), max k l) Q) : WO X (binaryOp .Add) v u H Q := by
  have h1 := hv.up x.inn k (max k l) _ _ (Nat.le_max_left _ _)
  have h2 := hu.up x.inn l (max k l) _ _ (Nat.le_max_right _ _)
  obtain ⟨a, vs, rfl, t, r⟩ := id h1
  obtain ⟨b, ws, rfl, t', r'⟩ := id h2
  refine WO.of op_catA ⟨a, b, vs, ws, rfl, rfl, eK ▸ x.tup t, eK ▸ x.tup t', by rw [← r.length, ← r'.length]; exact hz, fun e => ?_, fun e1 e2 => ?_, fun e1 e2 p n => ?_⟩
  · have : xs = [] := by have := r.length; rw [e] at this; simpa using this
    subst this
    exact g.here x h2
  · have : ys = [] := by have := r'.length; rw [e2] at this; simpa using this
    subst this
    rw [List.append_nil] at g
    exact g.here x h1
  · exact g.newT x n (Reps.append r r')
theorem reps_rep {k : Nat} {xs : List D} {vs : List V} (h : Reps R k xs vs) : ∀ n : Nat, Reps R k (List.replicate n xs).flatten (List.replicate n vs).flatten
  | 0 => rfl
  | n + 1 => by
    rw [List.replicate_succ, List.replicate_succ, List.flatten_cons, List.flatten_cons]
    exact Reps.append h (reps_rep h n)
theorem small64_ok {i : Int} (h : small64 i = true) : -(2 ^ 64) < i ∧ i < 2 ^ 64 := by
  unfold small64 at h
  simp only [Bool.and_eq_true, decide_eq_true_eq] at h
  exact h

theorem bin_ok {o : Operator} {dx dy r : DL} (x : RIn R H) (eK : R.K = X.K) (e : evBin o dx dy = .ok r) {v u : V} (hv : Rep R dx.2 dx.1 v) (hu : Rep R dy.2 dy.1 u) (g : Good R H r Q) :
    WO X (binaryOp o) v u H Q := by
  obtain ⟨d1, k1⟩ := dx
  obtain ⟨d2, k2⟩ := dy
  unfold evBin at e
  split at e
  · rename_i q1 q2; cases q1; cases q2; cases e; cases hv; cases hu
    exact WO.of op_add ⟨_, _, rfl, rfl, g.here x rfl⟩
  · rename_i q1 q2; cases q1; cases q2; cases hv; cases hu
    split at e
    · cases e
      exact WO.of op_add_str ⟨_, _, rfl, rfl, by assumption, g.here x rfl⟩
    · cases e
  · rename_i q1 q2; cases q1; cases q2
    split at e
    · cases e
      exact cat_lists x hv hu (by assumption) g
    · cases e
  · rename_i q1 q2; cases q1; cases q2
    split at e
    · cases e
      exact cat_tups x eK hv hu (by assumption) g
    · cases e
  · rename_i q1 q2; cases q1; cases q2; cases e; cases hv; cases hu
    exact WO.of op_sub ⟨_, _, rfl, rfl, g.here x rfl⟩
  · rename_i q1 q2; cases q1; cases q2; cases hv; cases hu
    split at e
    · rename_i hc
      cases e
      refine WO.of op_mul ⟨_, _, rfl, rfl, ?_, g.here x rfl⟩
      rcases Bool.or_eq_true_iff.mp hc with h | h
      · exact .inl (small64_ok h)
      · exact .inr (small64_ok h)
    · cases e
  · rename_i q1 q2; cases q1; cases q2; cases hu
    split at e
    · rename_i hc
      simp only [Bool.and_eq_true, decide_eq_true_eq] at hc
      cases e
      obtain ⟨a, vs, rfl, t, r⟩ := hv
      refine WO.of op_rep ⟨a, _, vs, rfl, rfl, x.rdl t, hc.1.1, hc.1.2, by rw [← r.length]; exact hc.2, fun p n => ?_⟩
      exact g.newL x n (Reps.upL x.inn (reps_rep r _))
    · cases e
  · rename_i q1 q2; cases q1; cases q2; cases hv; cases hu
    split at e
    · rename_i hc
      simp only [Bool.and_eq_true, decide_eq_true_eq] at hc
      cases e
      exact WO.of op_fdiv ⟨_, _, rfl, rfl, hc, g.here x rfl⟩
    · cases e
  · rename_i q1 q2; cases q1; cases q2; cases hv; cases hu
    split at e
    · rename_i hc
      simp only [decide_eq_true_eq] at hc
      cases e
      exact WO.of op_mod ⟨_, _, rfl, rfl, hc, g.here x rfl⟩
    · cases e
  · rename_i q1 q2; cases q1; cases q2; cases hv; cases hu
    split at e
    · rename_i hc
      simp only [Bool.and_eq_true, decide_eq_true_eq] at hc
      cases e
      exact WO.of op_pow ⟨_, _, rfl, rfl, ⟨hc.1.1, hc.1.2, hc.2⟩, g.here x rfl⟩
    · cases e
  · cases e
end
end Ev
set_option Elab.async false
set_option linter.all false
set_option maxRecDepth 100000
set_option maxHeartbeats 1000000
/-! Ev6: comparisons, in, indexes, slices. -/
namespace Ev
open PySem PySem.Spec PyProof.Rows L2
section
variable {X : Cx} {x y : V} {H : Hp} {Q : VK} {R : RE}

/-! ### keys -/
theorem keyEq_key {a y : D} {p q : Key} (ha : a.key = some p) (hy : y.key = some q) : keyEq a y = decide (p = q) := by
  cases a <;> simp only [D.key] at ha <;> first | cases ha | skip
  all_goals cases y <;> simp only [D.key] at hy <;> first | cases hy | skip
  all_goals simp [keyEq]
theorem keyEqs_eq : ∀ {xs ys : List D} {p q : List Key}, keysOf xs = some p → keysOf ys = some q → keyEq.keyEqs xs ys = decide (p = q)
  | [], [], p, q, hx, hy => by simp [keysOf] at hx hy; subst hx hy; simp [keyEq.keyEqs]
  | [], d :: ds, p, q, hx, hy => by
    simp only [keysOf] at hx hy
    cases hx
    split at hy
    · cases hy; simp [keyEq.keyEqs]
    · cases hy
  | d :: ds, [], p, q, hx, hy => by
    simp only [keysOf] at hx hy
    cases hy
    split at hx
    · cases hx
      cases d <;> simp [keyEq.keyEqs]
    · cases hx
  | d :: ds, e :: es, p, q, hx, hy => by
    simp only [keysOf] at hx hy
    split at hx
    · rename_i k1 k2 h1 h2
      split at hy
      · rename_i l1 l2 g1 g2
        cases hx; cases hy
        have ih := keyEqs_eq h2 g2
        cases d <;> simp only [D.key] at h1 <;> first | cases h1 | skip
        all_goals cases e <;> simp only [D.key] at g1 <;> first | cases g1 | skip
        all_goals simp [keyEq.keyEqs, ih]
      · cases hy
    · cases hx
theorem keyEq_tkey {a y : D} {p q : List Key} (ha : a.tkey = some p) (hy : y.tkey = some q) : keyEq a y = decide (p = q) := by
  cases a <;> simp only [D.tkey] at ha <;> first | cases ha | skip
  cases y <;> simp only [D.tkey] at hy <;> first | cases hy | skip
  simp only [keyEq]
  split at ha
  · split at hy
    · exact keyEqs_eq ha hy
    · cases hy
  · cases ha
theorem repK_get {k : Nat} {y : D} {q : Key} (hy : y.key = some q) : ∀ {kvs : List (D × D)} {ks : List Key} {vs : List V}, RepK R k kvs ks vs →
    match dget y kvs with | some d => ∃ v, valV (ks.zip vs) q = some v ∧ Rep R k d v | none => valV (ks.zip vs) q = none
  | [], ks, vs, h => by obtain ⟨rfl, rfl⟩ := h; exact rfl
  | (a, d) :: r, ks, vs, h => by
    obtain ⟨p, v, ps, ws, rfl, rfl, e, h1, h2⟩ := h
    have ih := repK_get hy h2
    have ek := keyEq_key e hy
    show match (if keyEq a y then some d else dget y r) with | some d => ∃ v', valV ((p, v) :: ps.zip ws) q = some v' ∧ Rep R k d v' | none => valV ((p, v) :: ps.zip ws) q = none
    by_cases hpq : p = q
    · rw [if_pos (by rw [ek]; exact decide_eq_true hpq)]
      exact ⟨v, valV_pos hpq, h1⟩
    · rw [if_neg (by rw [ek]; simp [hpq]), valV_neg hpq]
      exact ih
theorem repT_get {k : Nat} {y : D} {q : List Key} (hy : y.tkey = some q) : ∀ {kvs : List (D × D)} {ks : List (List Key)} {vs : List V}, RepT R k kvs ks vs →
    match dget y kvs with | some d => ∃ v, valV (ks.zip vs) q = some v ∧ Rep R k d v | none => valV (ks.zip vs) q = none
  | [], ks, vs, h => by obtain ⟨rfl, rfl⟩ := h; exact rfl
  | (a, d) :: r, ks, vs, h => by
    obtain ⟨p, v, ps, ws, rfl, rfl, e, h1, h2⟩ := h
    have ih := repT_get hy h2
    have ek := keyEq_tkey e hy
    show match (if keyEq a y then some d else dget y r) with | some d => ∃ v', valV ((p, v) :: ps.zip ws) q = some v' ∧ Rep R k d v' | none => valV ((p, v) :: ps.zip ws) q = none
    by_cases hpq : p = q
    · rw [if_pos (by rw [ek]; exact decide_eq_true hpq)]
      exact ⟨v, valV_pos hpq, h1⟩
    · rw [if_neg (by rw [ek]; simp [hpq]), valV_neg hpq]
      exact ih
theorem key_V {k : Nat} {y : D} {q : Key} {v : V} (hy : y.key = some q) (h : Rep R k y v) : v = kV q := by
  cases y <;> simp only [D.key] at hy <;> first | (cases hy; exact h) | cases hy
theorem keys_V {k : Nat} : ∀ {ys : List D} {q : List Key} {vs : List V}, keysOf ys = some q → Reps R k ys vs → vs = q.map kV
  | [], q, vs, hy, h => by simp [keysOf] at hy; subst hy; exact h
  | d :: ds, q, vs, hy, h => by
    simp only [keysOf] at hy
    obtain ⟨v, r, rfl, h1, h2⟩ := h
    split at hy
    · rename_i k1 k2 e1 e2
      cases hy
      rw [key_V e1 h1, keys_V e2 h2]; rfl
    · cases hy
/-- a tuple key lies as one, tracked -/
theorem tkey_V {k : Nat} {y : D} {q : List Key} {v : V} (x : RIn R H) (hy : y.tkey = some q) (h : Rep R k y v) : ∃ b, v = .ref b ∧ H b = some (.tup (q.map kV)) := by
  cases y <;> simp only [D.tkey] at hy <;> first | cases hy | skip
  split at hy
  · rename_i hi
    obtain ⟨a, vs, rfl, t, r⟩ := h
    rw [← keys_V hy r]
    exact ⟨a, rfl, x.rdt t hi⟩
  · cases hy

def ORep (R : RE) (k : Nat) : Option D → Option V → Prop
  | some d, some v => Rep R k d v
  | none, none => True
  | _, _ => False
/-- what is found in a dict: tracked, or written with text keys -/
def DFind (X : Cx) (R : RE) (H : Hp) (k : Nat) (a : Addr) (u : V) (od : Option D) : Prop :=
  (IsD H a ∧ ∃ o, DGet H a u o ∧ ORep R k od o) ∨
    ∃ es n z r, KDict X.K X.w a es n ∧ u = .str z ∧ PySem.W.nsIn X.K a z = some r ∧ ∃ o, RelO o r ∧ ORep R k od o
theorem dct_find (x : RIn R H) (eK : R.K = X.K) (ew : R.w = X.w) {t : Bool} {kvs : List (D × D)} {k l : Nat} {d : D} {v u : V} (hv : Rep R k (.dct t kvs) v) (hu : Rep R l d u) (hk : keyOk t kvs d = true) :
    ∃ a, v = .ref a ∧ DFind X R H (pr k) a u (dget d kvs) := by
  cases t with
  | true =>
    obtain ⟨a, vs, rfl, ks, h, hl, r⟩ := hv
    obtain ⟨q, hq⟩ := Option.isSome_iff_exists.mp (show d.tkey.isSome = true from hk)
    obtain ⟨b, rfl, hb⟩ := tkey_V x hq hu
    refine ⟨a, rfl, .inl ⟨.inr ⟨_, (x.hp k a _ h).rd⟩, _, .inr ⟨_, q, b, (x.hp k a _ h).rd, rfl, hb, rfl⟩, ?_⟩⟩
    have g := repT_get hq r
    revert g
    cases dget d kvs with
    | none => intro g; rw [g]; exact trivial
    | some e => rintro ⟨w, e1, e2⟩; rw [e1]; exact e2
  | false =>
    obtain ⟨a, vs, rfl, ks, h, hl, r⟩ := hv
    have hk0 : d.key.isSome = true := by
      unfold keyOk at hk
      rw [if_neg Bool.false_ne_true] at hk
      split at hk
      · cases d <;> first | rfl | cases hk
      · exact hk
    obtain ⟨q, hq⟩ := Option.isSome_iff_exists.mp hk0
    have eu := key_V hq hu
    subst eu
    have g := repK_get hq r
    have gg : ORep R (pr k) (dget d kvs) (valV (ks.zip vs) q) := by
      revert g
      cases dget d kvs with
      | none => intro g; rw [g]; exact trivial
      | some e => rintro ⟨w, e1, e2⟩; rw [e1]; exact e2
    refine ⟨a, rfl, ?_⟩
    rcases h with h | ⟨⟨es, n, kd, hz⟩, hs⟩
    · exact .inl ⟨.inl ⟨_, (x.hp k a _ h).rd⟩, _, .inl ⟨_, q, (x.hp k a _ h).rd, rfl, rfl⟩, gg⟩
    · obtain ⟨z, rfl⟩ : ∃ z, q = .inr z := by
        unfold keyOk at hk
        rw [if_neg Bool.false_ne_true, if_pos hs] at hk
        cases d <;> first | (cases hk; done) | skip
        cases hq
        exact ⟨_, rfl⟩
      obtain ⟨r0, e1, e2⟩ := hz z
      exact .inr ⟨es, n, z, r0, eK ▸ ew ▸ kd, rfl, eK ▸ e1, _, e2, gg⟩

/-! ### subscripts -/
def WI (X : Cx) (x y : V) (H : Hp) (Q : VK) : Prop :=
  ∀ (value slice : Expr) (σ : L2.St) (pins : List (Addr × Obj)) (s : Shared) (v u : Value), Inv X pins σ H s → RelV x v → RelV y u → subscripted slice false v u = operate [v, u] (getItem v u) →
    wpAny (model X.prog X.w) X.A (subscriptTail value slice v u) (EP X pins σ Q) X.xe s
theorem WI.of {r : R2} (h : IxR X r) (q : r x y H Q) : WI X x y H Q := fun value slice σ pins s v u I rx ry hs => h value slice pins s σ H x y v u Q I rx ry q hs
theorem ixR_WI : IxR X (fun x y H Q => WI X x y H Q) := fun value slice pins s σ H x y v u Q I rx ry h hs => h value slice σ pins s v u I rx ry hs
theorem reps_at {k : Nat} {ds : List D} {vs : List V} {i : Int} {d : D} (h : Reps R k ds vs) (e : atI ds i = some d) : ∃ v, atI vs i = some v ∧ Rep R k d v := by
  unfold atI at e ⊢
  rw [← h.length]
  cases q : ixN ds.length i with
  | none => rw [q] at e; cases e
  | some j =>
    rw [q] at e
    exact h.get (show ds[j]? = some d from e)
theorem atI_map {α β : Type} (f : α → β) (xs : List α) (i : Int) : atI (xs.map f) i = (atI xs i).map f := by
  unfold atI
  rw [List.length_map]
  cases ixN xs.length i with
  | none => rfl
  | some j => simp
theorem idx_ok {dx dy r : DL} (hu : X.A.units + 1 < cLine) (x : RIn R H) (eK : R.K = X.K) (ew : R.w = X.w) (e : evIdx dx dy = .ok r) {v u : V} (hv : Rep R dx.2 dx.1 v) (hu' : Rep R dy.2 dy.1 u) (g : Good R H r Q) : WI X v u H Q := by
  obtain ⟨d1, k1⟩ := dx
  obtain ⟨d2, k2⟩ := dy
  unfold evIdx at e
  split at e
  · rename_i q1 q2; cases q1; cases q2; cases hu'
    split at e
    · rename_i q
      cases e
      obtain ⟨a, vs, rfl, t, r⟩ := hv
      obtain ⟨w, e1, e2⟩ := reps_at r q
      exact WI.of ix_list ⟨a, vs, _, w, rfl, rfl, eK ▸ x.lst t, e1, g.here x (scal_rep e2)⟩
    · cases e
  · rename_i q1 q2; cases q1; cases q2; cases hu'
    split at e
    · rename_i q
      cases e
      obtain ⟨a, rfl, t⟩ := hv
      exact WI.of ix_list ⟨a, _, _, _, rfl, rfl, eK ▸ x.scr a _ t, by rw [atI_map, q]; rfl, g.here x rfl⟩
    · cases e
  · rename_i q1 q2; cases q1; cases q2; cases hu'
    split at e
    · rename_i q
      cases e
      obtain ⟨a, vs, rfl, t, r⟩ := hv
      obtain ⟨w, e1, e2⟩ := reps_at r q
      exact WI.of ix_tup ⟨a, vs, _, w, rfl, rfl, eK ▸ x.tup t, e1, g.here x (scal_rep e2)⟩
    · cases e
  · rename_i q1 q2; cases q1; cases q2; cases hu'
    split at e
    · split at e
      · rename_i q
        cases e
        cases hv
        exact WI.of ix_str ⟨_, _, _, rfl, rfl, by assumption, q, g.here x rfl⟩
      · cases e
    · cases e
  · rename_i q1 q2; cases q1; cases q2
    split at e
    · rename_i hk
      split at e
      · rename_i q
        cases e
        obtain ⟨a, rfl, f⟩ := dct_find (X := X) x eK ew hv hu' hk
        rw [q] at f
        rcases f with ⟨_, o, dg, orp⟩ | ⟨es, n, z, r, kd, rfl, e1, o, e2, orp⟩
        · cases o with
          | none => exact orp.elim
          | some w =>
            intro value slice σ pins s v0 u0 I rx ry hs
            cases rx
            exact tail_any (dict_typeIs I dg) PySem.F.slot_dict_getitem.lookup (d_getItem hu I dg ry fun w' s3 I3 rw' => ⟨w, H, I3, rw', g.here x (scal_rep orp)⟩) hs
        · cases o with
          | none => exact orp.elim
          | some w =>
            cases r with
            | none => exact e2.elim
            | some u0 => exact WI.of ix_kdict ⟨a, z, w, rfl, rfl, ⟨es, n, u0, kd.at_, kd.lit, e1, e2⟩, g.here x (scal_rep orp)⟩
      · cases e
    · cases e
  · cases e
end
end Ev
set_option Elab.async false
set_option linter.all false
set_option maxRecDepth 100000
set_option maxHeartbeats 1000000
/-! Ev7: comparisons; slices. -/
namespace Ev
section
open PySem PySem.Spec PyProof.Rows L2 MeetsSeq MeetsSeq2 MeetsSeq3 SeqRoads2

theorem tup_eqP {prog : Program} {w : World} (l b : Addr) (xs ys : Array Value) (n n2 : Nat) (dd dd2 : Option Addr) (sl sl2 : Array (Option Value)) (e : Nat → Bool) :
    MeetsIn prog w (Builtin.«tuple.__eq__» ⟨[.ref l, .ref b], []⟩) (fun A R s =>
      s.heap.get? l = some { cls := .type "tuple", dict := dd, data := .seq xs n, slots := sl } ∧
      s.heap.get? b = some { cls := .type "tuple", dict := dd2, data := .seq ys n2, slots := sl2 } ∧
      (∀ j (h1 : j < xs.size) (h2 : j < ys.size), SeqAt.EqP prog w A.in1 s xs[j] ys[j] (e j)) ∧ R (.ok (.ret (.bool (((List.range (min xs.size ys.size)).all e && xs.size == ys.size))))) s) :=
  .of_wp fun A R s h => by
    obtain ⟨hp, g, d, tk, os⟩ := s
    obtain ⟨hl, hb, he, h⟩ := h
    have sub := AutoSeq1.sub_tuple_tuple
    have len : (xs.toList.zip ys.toList).length = min xs.size ys.size := by simp
    wp_walk using AutoSeq1.wpAny_loadPart' hl, AutoSeq1.wpAny_loadPart' hb, wpAny_forIn_list _ (fun rest c s' => c.1 = none ∧ s' = ⟨hp, g, d, tk, os⟩ ∧ ∃ i, rest = (xs.toList.zip ys.toList).drop i ∧ R (.ok (.ret (.bool (((List.range (min xs.size ys.size)).drop i).all e && xs.size == ys.size)))) ⟨hp, g, d, tk, os⟩) _
    case turn =>
      rintro ⟨y, x⟩ rest c s' ⟨hc', rfl, i, hz, hR⟩
      have lt : i < (xs.toList.zip ys.toList).length := by
        by_cases q : i < (xs.toList.zip ys.toList).length
        · exact q
        · rw [List.drop_of_length_le (by omega)] at hz
          cases hz
      have hm : i < min xs.size ys.size := by omega
      have i1 : i < xs.size := by omega
      have i2 : i < ys.size := by omega
      rw [List.drop_eq_getElem_cons lt] at hz
      injection hz with hyx more
      have ey : y = xs[i] := by simpa using congrArg Prod.fst hyx
      have ex : x = ys[i] := by simpa using congrArg Prod.snd hyx
      subst ey ex
      have dr : (List.range (min xs.size ys.size)).drop i = i :: (List.range (min xs.size ys.size)).drop (i + 1) := by
        rw [List.drop_eq_getElem_cons (by simpa using hm)]
        simp
      rw [dr, List.all_cons] at hR
      refine wpAny_bind (he i i1 i2 _ _ ?_)
      cases q : e i with
      | true =>
        rw [q] at hR
        wp_walk
        exact ⟨rfl, rfl, i + 1, more, by simpa using hR⟩
      | false =>
        rw [q] at hR
        wp_walk
        exact ⟨_, rfl, by simpa using hR⟩
    case fin =>
      rintro ⟨c1, c2⟩ s' ⟨hc', rfl, i, hz, hR⟩
      simp only at hc'
      subst hc'
      have ge : min xs.size ys.size ≤ i := by
        by_cases q : i < (xs.toList.zip ys.toList).length
        · rw [List.drop_eq_getElem_cons q] at hz
          cases hz
        · omega
      rw [List.drop_of_length_le (by simpa using ge)] at hR
      wp_walk
      exact ⟨_, rfl, by simpa [Builtin.Tuple.tupleCompareSizes, bne] using hR⟩
    case h => exact ⟨rfl, rfl, 0, rfl, by simpa using h⟩
theorem tup_rceq {prog : Program} {w : World} {A : Around} {s : Shared} {l b : Addr} {xs ys : Array Value} {e : Nat → Bool} (hl : s.heap.IsTuple l xs) (hb : s.heap.IsTuple b ys) (hu : A.units < cLine)
    (he : ∀ j (h1 : j < xs.size) (h2 : j < ys.size), SeqAt.EqP prog w A.in1 s xs[j] ys[j] (e j)) (E Q : Value → Shared → Prop) (h : Q (.bool (((List.range (min xs.size ys.size)).all e && xs.size == ys.size))) s) :
    wpAny (model prog w) A (richCompare .Eq (.ref l) (.ref b)) Q E s := by
  obtain ⟨⟨c1, dd, q1, sl⟩, o1, h1, n1, e1⟩ := id hl
  obtain ⟨⟨c2, dd2, q2, sl2⟩, o2, h2, n2, e2⟩ := id hb
  simp only at h1 e1 h2 e2
  subst h1 e1 h2 e2
  refine wpAny_richCompare_same_room (op := .Eq) ⟨_, o1, rfl⟩ ⟨_, o2, rfl⟩ F.slot_tuple_eq ?_ hu
  exact call_meetsIn F.slot_tuple_eq ⟨_, o1, rfl⟩ F.entry_tuple_eq (F.args_tuple_eq_2 _ _) (tup_eqP l b xs ys n1 n2 dd dd2 sl sl2 e)
    ⟨o1, o2, he, ⟨(fun z => nomatch z), h⟩⟩

theorem tup_neP {prog : Program} {w : World} (l b : Addr) (xs ys : Array Value) (n n2 : Nat) (dd dd2 : Option Addr) (sl sl2 : Array (Option Value)) (e : Nat → Bool) :
    MeetsIn prog w (Builtin.«tuple.__ne__» ⟨[.ref l, .ref b], []⟩) (fun A R s =>
      s.heap.get? l = some { cls := .type "tuple", dict := dd, data := .seq xs n, slots := sl } ∧
      s.heap.get? b = some { cls := .type "tuple", dict := dd2, data := .seq ys n2, slots := sl2 } ∧
      (∀ j (h1 : j < xs.size) (h2 : j < ys.size), SeqAt.EqP prog w A.in1 s xs[j] ys[j] (e j)) ∧ R (.ok (.ret (.bool (!((List.range (min xs.size ys.size)).all e && xs.size == ys.size))))) s) :=
  .of_wp fun A R s h => by
    obtain ⟨hp, g, d, tk, os⟩ := s
    obtain ⟨hl, hb, he, h⟩ := h
    have sub := AutoSeq1.sub_tuple_tuple
    have len : (xs.toList.zip ys.toList).length = min xs.size ys.size := by simp
    wp_walk using AutoSeq1.wpAny_loadPart' hl, AutoSeq1.wpAny_loadPart' hb, wpAny_forIn_list _ (fun rest c s' => c.1 = none ∧ s' = ⟨hp, g, d, tk, os⟩ ∧ ∃ i, rest = (xs.toList.zip ys.toList).drop i ∧ R (.ok (.ret (.bool (!(((List.range (min xs.size ys.size)).drop i).all e && xs.size == ys.size))))) ⟨hp, g, d, tk, os⟩) _
    case turn =>
      rintro ⟨y, x⟩ rest c s' ⟨hc', rfl, i, hz, hR⟩
      have lt : i < (xs.toList.zip ys.toList).length := by
        by_cases q : i < (xs.toList.zip ys.toList).length
        · exact q
        · rw [List.drop_of_length_le (by omega)] at hz
          cases hz
      have hm : i < min xs.size ys.size := by omega
      have i1 : i < xs.size := by omega
      have i2 : i < ys.size := by omega
      rw [List.drop_eq_getElem_cons lt] at hz
      injection hz with hyx more
      have ey : y = xs[i] := by simpa using congrArg Prod.fst hyx
      have ex : x = ys[i] := by simpa using congrArg Prod.snd hyx
      subst ey ex
      have dr : (List.range (min xs.size ys.size)).drop i = i :: (List.range (min xs.size ys.size)).drop (i + 1) := by
        rw [List.drop_eq_getElem_cons (by simpa using hm)]
        simp
      rw [dr, List.all_cons] at hR
      refine wpAny_bind (he i i1 i2 _ _ ?_)
      cases q : e i with
      | true =>
        rw [q] at hR
        wp_walk
        exact ⟨rfl, rfl, i + 1, more, by simpa using hR⟩
      | false =>
        rw [q] at hR
        wp_walk
        exact ⟨_, rfl, by simpa using hR⟩
    case fin =>
      rintro ⟨c1, c2⟩ s' ⟨hc', rfl, i, hz, hR⟩
      simp only at hc'
      subst hc'
      have ge : min xs.size ys.size ≤ i := by
        by_cases q : i < (xs.toList.zip ys.toList).length
        · rw [List.drop_eq_getElem_cons q] at hz
          cases hz
        · omega
      rw [List.drop_of_length_le (by simpa using ge)] at hR
      wp_walk
      exact ⟨_, rfl, by simpa [Builtin.Tuple.tupleCompareSizes, bne] using hR⟩
    case h => exact ⟨rfl, rfl, 0, rfl, by simpa using h⟩
theorem tup_rcne {prog : Program} {w : World} {A : Around} {s : Shared} {l b : Addr} {xs ys : Array Value} {e : Nat → Bool} (hl : s.heap.IsTuple l xs) (hb : s.heap.IsTuple b ys) (hu : A.units < cLine)
    (he : ∀ j (h1 : j < xs.size) (h2 : j < ys.size), SeqAt.EqP prog w A.in1 s xs[j] ys[j] (e j)) (E Q : Value → Shared → Prop) (h : Q (.bool (!((List.range (min xs.size ys.size)).all e && xs.size == ys.size))) s) :
    wpAny (model prog w) A (richCompare .NotEq (.ref l) (.ref b)) Q E s := by
  obtain ⟨⟨c1, dd, q1, sl⟩, o1, h1, n1, e1⟩ := id hl
  obtain ⟨⟨c2, dd2, q2, sl2⟩, o2, h2, n2, e2⟩ := id hb
  simp only at h1 e1 h2 e2
  subst h1 e1 h2 e2
  refine wpAny_richCompare_same_room (op := .NotEq) ⟨_, o1, rfl⟩ ⟨_, o2, rfl⟩ F.slot_tuple_ne ?_ hu
  exact call_meetsIn F.slot_tuple_ne ⟨_, o1, rfl⟩ F.entry_tuple_ne (F.args_tuple_ne_2 _ _) (tup_neP l b xs ys n1 n2 dd dd2 sl sl2 e)
    ⟨o1, o2, he, ⟨(fun z => nomatch z), h⟩⟩
end
open PySem PySem.Spec PyProof.Rows L2
section
variable {X : Cx} {x y : V} {H : Hp} {Q : VK} {R : RE}

theorem fits_dep {d : D} (h : d.fits = true) : d.dep ≤ 40 := of_decide_eq_true h
theorem eqAt_rc {A : Around} {s : Shared} {a b : Value} {c : Bool} {prog : Program} {w : World} {E Q : Value → Shared → Prop} (hu : A.units < cLine) (h : SeqAt.RcAt A s a b c) (q : Q (.bool c) s) : wpAny (model prog w) A (compareOp .Eq a b) Q E s := h prog w E Q q
/-- how == answers, at the top -/
theorem rc_run {pins : List (Addr × Obj)} {σ : L2.St} {s : Shared} (I : Inv X pins σ H s) (x : RIn R H) (eK : R.K = X.K) {d e : D} {A : Around} {j k : Nat} {v u : V} {a b : Value} (hd : d.dep < 1000) (he : e.dep < 1000) (hu : A.units + d.dep < cLine)
    (h : Rep R j d v) (g : Rep R k e u) (ra : RelV v a) (rb : RelV u b) : SeqAt.RcAt A s a b (deq d e) := by
  cases d with
  | non =>
    cases h; cases ra
    cases e with
    | non => cases g; cases rb; exact SeqAt.RcAt.none_none
    | bl y => cases g; cases rb; exact SeqAt.RcAt.none_bool y
    | int y => cases g; obtain ⟨t, rfl⟩ := rb; exact SeqAt.RcAt.none_int y t
    | str y => cases g; obtain ⟨t, rfl⟩ := rb; exact SeqAt.RcAt.none_str y t
    | tup ys => obtain ⟨q, vs, rfl, t, _⟩ := g; cases rb; obtain ⟨_, _, p, _⟩ := I.tuple (eK ▸ x.tup t); exact SeqAt.RcAt.none_tuple p (by omega)
    | lst ys => obtain ⟨q, vs, rfl, t, _⟩ := g; cases rb; obtain ⟨_, _, p, _⟩ := I.list (eK ▸ x.lst t); exact SeqAt.RcAt.none_list p.isList (by omega)
    | _ => simp [D.dep] at he
  | bl c =>
    cases h; cases ra
    cases e with
    | non => cases g; cases rb; exact SeqAt.RcAt.bool_none c
    | bl y => cases g; cases rb; exact SeqAt.RcAt.bool_bool c y
    | int y => cases g; obtain ⟨t, rfl⟩ := rb; exact SeqAt.RcAt.bool_int c y t
    | str y => cases g; obtain ⟨t, rfl⟩ := rb; exact SeqAt.RcAt.bool_str c y t
    | tup ys => obtain ⟨q, vs, rfl, t, _⟩ := g; cases rb; obtain ⟨_, _, p, _⟩ := I.tuple (eK ▸ x.tup t); exact SeqAt.RcAt.bool_tuple c p (by omega)
    | lst ys => obtain ⟨q, vs, rfl, t, _⟩ := g; cases rb; obtain ⟨_, _, p, _⟩ := I.list (eK ▸ x.lst t); exact SeqAt.RcAt.bool_list c p.isList (by omega)
    | _ => simp [D.dep] at he
  | int c =>
    cases h; obtain ⟨t0, rfl⟩ := ra
    cases e with
    | non => cases g; cases rb; exact SeqAt.RcAt.int_none c t0
    | bl y => cases g; cases rb; exact SeqAt.RcAt.int_bool c t0 y
    | int y => cases g; obtain ⟨t, rfl⟩ := rb; exact SeqAt.RcAt.int_int c t0 y t
    | str y => cases g; obtain ⟨t, rfl⟩ := rb; exact SeqAt.RcAt.int_str c t0 y t
    | tup ys => obtain ⟨q, vs, rfl, t, _⟩ := g; cases rb; obtain ⟨_, _, p, _⟩ := I.tuple (eK ▸ x.tup t); exact SeqAt.RcAt.int_tuple c t0 p (by omega)
    | lst ys => obtain ⟨q, vs, rfl, t, _⟩ := g; cases rb; obtain ⟨_, _, p, _⟩ := I.list (eK ▸ x.lst t); exact SeqAt.RcAt.int_list c t0 p.isList (by omega)
    | _ => simp [D.dep] at he
  | str c =>
    cases h; obtain ⟨t0, rfl⟩ := ra
    cases e with
    | non => cases g; cases rb; exact SeqAt.RcAt.str_none c t0
    | bl y => cases g; cases rb; exact SeqAt.RcAt.str_bool c t0 y
    | int y => cases g; obtain ⟨t, rfl⟩ := rb; exact SeqAt.RcAt.str_int c t0 y t
    | str y =>
      cases g; obtain ⟨t, rfl⟩ := rb
      have := SeqAt.RcAt.str_str (A := A) (s := s) c t0 y t
      have e : decide (c = y) = (c == y) := by by_cases q : c = y <;> simp [q]
      show SeqAt.RcAt A s _ _ (decide (c = y))
      rw [e]; exact this
    | tup ys => obtain ⟨q, vs, rfl, t, _⟩ := g; cases rb; obtain ⟨_, _, p, _⟩ := I.tuple (eK ▸ x.tup t); exact SeqAt.RcAt.str_tuple c t0 p (by omega)
    | lst ys => obtain ⟨q, vs, rfl, t, _⟩ := g; cases rb; obtain ⟨_, _, p, _⟩ := I.list (eK ▸ x.lst t); exact SeqAt.RcAt.str_list c t0 p.isList (by omega)
    | _ => simp [D.dep] at he
  | tup xs =>
    obtain ⟨l, vs, rfl, t, r⟩ := h
    cases ra
    obtain ⟨its, r1, p1, _⟩ := I.tuple (eK ▸ x.tup t)
    have hu1 : A.units < cLine := by omega
    cases e with
    | non => cases g; cases rb; exact SeqAt.RcAt.tuple_none p1 hu1
    | bl y => cases g; cases rb; exact SeqAt.RcAt.tuple_bool y p1 hu1
    | int y => cases g; obtain ⟨t, rfl⟩ := rb; exact SeqAt.RcAt.tuple_int y t p1 hu1
    | str y => cases g; obtain ⟨t, rfl⟩ := rb; exact SeqAt.RcAt.tuple_str y t p1 hu1
    | lst ys => obtain ⟨q, ws, rfl, t', _⟩ := g; cases rb; obtain ⟨_, _, p, _⟩ := I.list (eK ▸ x.lst t'); exact SeqAt.RcAt.tuple_list p1 p.isList hu1
    | tup ys =>
      obtain ⟨q, ws, rfl, t', r'⟩ := g
      cases rb
      obtain ⟨its', r1', p1', _⟩ := I.tuple (eK ▸ x.tup t')
      have n1 : its.toArray.size = xs.length := by rw [List.size_toArray, ← r1.length, r.length]
      have n2 : its'.toArray.size = ys.length := by rw [List.size_toArray, ← r1'.length, r'.length]
      show SeqAt.RcAt A s _ _ (deqs xs ys)
      rw [← deqs_pairs xs ys, ← n1, ← n2]
      refine SeqAt.RcAt.tuples p1 p1' hu1 fun m h1 h2 => ?_
      have := deqs_run I x eK xs ys A.in1 _ _ vs ws its its' (by simp only [D.dep] at hd; omega) (by simp only [D.dep] at he; omega)
        (by show A.units + 1 + D.deps xs < cLine; simp only [D.dep] at hu; omega) r r' r1 r1' m (by simpa using h1) (by simpa using h2)
      simpa using this
    | _ => simp [D.dep] at he
  | lst xs =>
    obtain ⟨l, vs, rfl, t, r⟩ := h
    cases ra
    obtain ⟨its, r1, p1, _⟩ := I.list (eK ▸ x.lst t)
    have hu1 : A.units < cLine := by omega
    cases e with
    | non => cases g; cases rb; exact SeqAt.RcAt.list_none p1.isList hu1
    | bl y => cases g; cases rb; exact SeqAt.RcAt.list_bool y p1.isList hu1
    | int y => cases g; obtain ⟨t, rfl⟩ := rb; exact SeqAt.RcAt.list_int y t p1.isList hu1
    | str y => cases g; obtain ⟨t, rfl⟩ := rb; exact SeqAt.RcAt.list_str y t p1.isList hu1
    | tup ys => obtain ⟨q, ws, rfl, t', _⟩ := g; cases rb; obtain ⟨_, _, p, _⟩ := I.tuple (eK ▸ x.tup t'); exact SeqAt.RcAt.list_tuple p1.isList p hu1
    | lst ys =>
      obtain ⟨q, ws, rfl, t', r'⟩ := g
      cases rb
      obtain ⟨its', r1', p1', _⟩ := I.list (eK ▸ x.lst t')
      have n1 : its.toArray.size = xs.length := by rw [List.size_toArray, ← r1.length, r.length]
      have n2 : its'.toArray.size = ys.length := by rw [List.size_toArray, ← r1'.length, r'.length]
      show SeqAt.RcAt A s _ _ (deqs xs ys)
      by_cases hsz : xs.length = ys.length
      · rw [← deqs_len hsz, ← n1]
        refine SeqAt.RcAt.lists p1.isList p1'.isList (by omega) hu1 fun m h1 h2 => ?_
        have := deqs_run I x eK xs ys A.in1 _ _ vs ws its its' (by simp only [D.dep] at hd; omega) (by simp only [D.dep] at he; omega)
          (by show A.units + 1 + D.deps xs < cLine; simp only [D.dep] at hu; omega) r r' r1 r1' m (by simpa using h1) (by simpa using h2)
        simpa using this
      · rw [deqs_nolen hsz]
        exact SeqAt.RcAt.lists_lengths p1.isList p1'.isList (by rw [n1, n2]; simpa using hsz) hu1
    | _ => simp [D.dep] at he
  | _ => simp [D.dep] at hd
/-- how != answers, at the top -/
theorem rn_run {pins : List (Addr × Obj)} {σ : L2.St} {s : Shared} (I : Inv X pins σ H s) (x : RIn R H) (eK : R.K = X.K) {d e : D} {A : Around} {j k : Nat} {v u : V} {a b : Value} (hd : d.dep < 1000) (he : e.dep < 1000) (hu : A.units + d.dep < cLine)
    (h : Rep R j d v) (g : Rep R k e u) (ra : RelV v a) (rb : RelV u b) : SeqAt.RcNeAt A s a b (!deq d e) := by
  cases d with
  | non =>
    cases h; cases ra
    cases e with
    | non => cases g; cases rb; exact SeqAt.RcNeAt.none_none
    | bl y => cases g; cases rb; exact SeqAt.RcNeAt.none_bool y
    | int y => cases g; obtain ⟨t, rfl⟩ := rb; exact SeqAt.RcNeAt.none_int y t
    | str y => cases g; obtain ⟨t, rfl⟩ := rb; exact SeqAt.RcNeAt.none_str y t
    | tup ys => obtain ⟨q, vs, rfl, t, _⟩ := g; cases rb; obtain ⟨_, _, p, _⟩ := I.tuple (eK ▸ x.tup t); exact SeqAt.RcNeAt.none_tuple p (by omega)
    | lst ys => obtain ⟨q, vs, rfl, t, _⟩ := g; cases rb; obtain ⟨_, _, p, _⟩ := I.list (eK ▸ x.lst t); exact SeqAt.RcNeAt.none_list p.isList (by omega)
    | _ => simp [D.dep] at he
  | bl c =>
    cases h; cases ra
    cases e with
    | non => cases g; cases rb; exact SeqAt.RcNeAt.bool_none c
    | bl y => cases g; cases rb; exact SeqAt.RcNeAt.bool_bool c y
    | int y => cases g; obtain ⟨t, rfl⟩ := rb; exact SeqAt.RcNeAt.bool_int c y t
    | str y => cases g; obtain ⟨t, rfl⟩ := rb; exact SeqAt.RcNeAt.bool_str c y t
    | tup ys => obtain ⟨q, vs, rfl, t, _⟩ := g; cases rb; obtain ⟨_, _, p, _⟩ := I.tuple (eK ▸ x.tup t); exact SeqAt.RcNeAt.bool_tuple c p (by omega)
    | lst ys => obtain ⟨q, vs, rfl, t, _⟩ := g; cases rb; obtain ⟨_, _, p, _⟩ := I.list (eK ▸ x.lst t); exact SeqAt.RcNeAt.bool_list c p.isList (by omega)
    | _ => simp [D.dep] at he
  | int c =>
    cases h; obtain ⟨t0, rfl⟩ := ra
    cases e with
    | non => cases g; cases rb; exact SeqAt.RcNeAt.int_none c t0
    | bl y => cases g; cases rb; exact SeqAt.RcNeAt.int_bool c t0 y
    | int y => cases g; obtain ⟨t, rfl⟩ := rb; exact SeqAt.RcNeAt.int_int c t0 y t
    | str y => cases g; obtain ⟨t, rfl⟩ := rb; exact SeqAt.RcNeAt.int_str c t0 y t
    | tup ys => obtain ⟨q, vs, rfl, t, _⟩ := g; cases rb; obtain ⟨_, _, p, _⟩ := I.tuple (eK ▸ x.tup t); exact SeqAt.RcNeAt.int_tuple c t0 p (by omega)
    | lst ys => obtain ⟨q, vs, rfl, t, _⟩ := g; cases rb; obtain ⟨_, _, p, _⟩ := I.list (eK ▸ x.lst t); exact SeqAt.RcNeAt.int_list c t0 p.isList (by omega)
    | _ => simp [D.dep] at he
  | str c =>
    cases h; obtain ⟨t0, rfl⟩ := ra
    cases e with
    | non => cases g; cases rb; exact SeqAt.RcNeAt.str_none c t0
    | bl y => cases g; cases rb; exact SeqAt.RcNeAt.str_bool c t0 y
    | int y => cases g; obtain ⟨t, rfl⟩ := rb; exact SeqAt.RcNeAt.str_int c t0 y t
    | str y =>
      cases g; obtain ⟨t, rfl⟩ := rb
      have := SeqAt.RcNeAt.str_str (A := A) (s := s) c t0 y t
      have e : decide (c = y) = (c == y) := by by_cases q : c = y <;> simp [q]
      show SeqAt.RcNeAt A s _ _ (!decide (c = y))
      rw [e]; exact this
    | tup ys => obtain ⟨q, vs, rfl, t, _⟩ := g; cases rb; obtain ⟨_, _, p, _⟩ := I.tuple (eK ▸ x.tup t); exact SeqAt.RcNeAt.str_tuple c t0 p (by omega)
    | lst ys => obtain ⟨q, vs, rfl, t, _⟩ := g; cases rb; obtain ⟨_, _, p, _⟩ := I.list (eK ▸ x.lst t); exact SeqAt.RcNeAt.str_list c t0 p.isList (by omega)
    | _ => simp [D.dep] at he
  | tup xs =>
    obtain ⟨l, vs, rfl, t, r⟩ := h
    cases ra
    obtain ⟨its, r1, p1, _⟩ := I.tuple (eK ▸ x.tup t)
    have hu1 : A.units < cLine := by omega
    cases e with
    | non => cases g; cases rb; exact SeqAt.RcNeAt.tuple_none p1 hu1
    | bl y => cases g; cases rb; exact SeqAt.RcNeAt.tuple_bool y p1 hu1
    | int y => cases g; obtain ⟨t, rfl⟩ := rb; exact SeqAt.RcNeAt.tuple_int y t p1 hu1
    | str y => cases g; obtain ⟨t, rfl⟩ := rb; exact SeqAt.RcNeAt.tuple_str y t p1 hu1
    | lst ys => obtain ⟨q, ws, rfl, t', _⟩ := g; cases rb; obtain ⟨_, _, p, _⟩ := I.list (eK ▸ x.lst t'); exact SeqAt.RcNeAt.tuple_list p1 p.isList hu1
    | tup ys =>
      obtain ⟨q, ws, rfl, t', r'⟩ := g
      cases rb
      obtain ⟨its', r1', p1', _⟩ := I.tuple (eK ▸ x.tup t')
      have n1 : its.toArray.size = xs.length := by rw [List.size_toArray, ← r1.length, r.length]
      have n2 : its'.toArray.size = ys.length := by rw [List.size_toArray, ← r1'.length, r'.length]
      show SeqAt.RcNeAt A s _ _ (!deqs xs ys)
      rw [← deqs_pairs xs ys, ← n1, ← n2]
      refine SeqAt.RcNeAt.tuples p1 p1' hu1 fun m h1 h2 => ?_
      have := deqs_run I x eK xs ys A.in1 _ _ vs ws its its' (by simp only [D.dep] at hd; omega) (by simp only [D.dep] at he; omega)
        (by show A.units + 1 + D.deps xs < cLine; simp only [D.dep] at hu; omega) r r' r1 r1' m (by simpa using h1) (by simpa using h2)
      simpa using this
    | _ => simp [D.dep] at he
  | lst xs =>
    obtain ⟨l, vs, rfl, t, r⟩ := h
    cases ra
    obtain ⟨its, r1, p1, _⟩ := I.list (eK ▸ x.lst t)
    have hu1 : A.units < cLine := by omega
    cases e with
    | non => cases g; cases rb; exact SeqAt.RcNeAt.list_none p1.isList hu1
    | bl y => cases g; cases rb; exact SeqAt.RcNeAt.list_bool y p1.isList hu1
    | int y => cases g; obtain ⟨t, rfl⟩ := rb; exact SeqAt.RcNeAt.list_int y t p1.isList hu1
    | str y => cases g; obtain ⟨t, rfl⟩ := rb; exact SeqAt.RcNeAt.list_str y t p1.isList hu1
    | tup ys => obtain ⟨q, ws, rfl, t', _⟩ := g; cases rb; obtain ⟨_, _, p, _⟩ := I.tuple (eK ▸ x.tup t'); exact SeqAt.RcNeAt.list_tuple p1.isList p hu1
    | lst ys =>
      obtain ⟨q, ws, rfl, t', r'⟩ := g
      cases rb
      obtain ⟨its', r1', p1', _⟩ := I.list (eK ▸ x.lst t')
      have n1 : its.toArray.size = xs.length := by rw [List.size_toArray, ← r1.length, r.length]
      have n2 : its'.toArray.size = ys.length := by rw [List.size_toArray, ← r1'.length, r'.length]
      show SeqAt.RcNeAt A s _ _ (!deqs xs ys)
      by_cases hsz : xs.length = ys.length
      · rw [← deqs_len hsz, ← n1]
        refine SeqAt.RcNeAt.lists p1.isList p1'.isList (by omega) hu1 fun m h1 h2 => ?_
        have := deqs_run I x eK xs ys A.in1 _ _ vs ws its its' (by simp only [D.dep] at hd; omega) (by simp only [D.dep] at he; omega)
          (by show A.units + 1 + D.deps xs < cLine; simp only [D.dep] at hu; omega) r r' r1 r1' m (by simpa using h1) (by simpa using h2)
        simpa using this
      · rw [deqs_nolen hsz]
        exact SeqAt.RcNeAt.lists_lengths p1.isList p1'.isList (by rw [n1, n2]; simpa using hsz) hu1
    | _ => simp [D.dep] at he
  | _ => simp [D.dep] at hd
end
end Ev
set_option Elab.async false
set_option linter.all false
set_option maxRecDepth 100000
set_option maxHeartbeats 1000000
/-! Ev8: == of dicts; comparisons as they are told. -/
namespace Ev
open PySem PySem.Spec PyProof.Rows L2
section
variable {X : Cx} {x y : V} {H : Hp} {Q : VK} {R : RE} {pins : List (Addr × Obj)} {σ : L2.St} {s : Shared}

theorem repK_len {k : Nat} : ∀ {kvs : List (D × D)} {ks : List Key} {vs : List V}, RepK R k kvs ks vs → kvs.length = ks.length ∧ kvs.length = vs.length
  | [], ks, vs, h => by obtain ⟨rfl, rfl⟩ := h; exact ⟨rfl, rfl⟩
  | (a, d) :: r, ks, vs, h => by
    obtain ⟨p, v, ps, ws, rfl, rfl, e, h1, h2⟩ := h
    have := repK_len h2
    simp [this.1.symm, this.2.symm]
theorem hits_of (I : Inv X pins σ H s) (x : RIn R H) (eK : R.K = X.K) {A : Around} (hu : A.units + 41 < cLine) {j k : Nat} {ys : List (D × D)} {ls : List Key} {us : List V} {vb : List (Key × Value)} (hy : RepK R k ys ls us) (kb : KV (ls.zip us) vb)
    (fy : ∀ p ∈ ys, p.2.fits = true) : ∀ {xs : List (D × D)} {ks : List Key} {vs : List V} {va : List (Key × Value)}, RepK R j xs ks vs → KV (ks.zip vs) va → (∀ p ∈ xs, p.2.fits = true) → PySem.W.KeqHitsP X.prog X.w A s vb va (deqk ys xs)
  | [], ks, vs, va, h, ka, _ => by
    obtain ⟨rfl, rfl⟩ := h
    cases ka
    exact .nil
  | (a, d) :: r, ks, vs, va, h, ka, fx => by
    obtain ⟨q, v, qs, ws, rfl, rfl, e, h1, h2⟩ := h
    have ka' : Paired (fun (p : Key × V) (q : Key × Value) => p.1 = q.1 ∧ RelV p.2 q.2) ((q, v) :: qs.zip ws) va := ka
    cases ka' with
    | @cons _ w _ wr hw hr =>
      obtain ⟨w1, w2⟩ := w
      obtain ⟨e1, rv⟩ := hw
      have e1' : q = w1 := e1
      subst e1'
      have ih := hits_of I x eK hu hy kb fy h2 hr (fun p hp => fx p (List.mem_cons_of_mem _ hp))
      have g := repK_get e hy
      have rel := kb.val q
      simp only [deqk]
      cases hd : dget a ys with
      | none =>
        rw [hd] at g
        have g' : valV (ls.zip us) q = none := g
        rw [g'] at rel
        have := RelO.none_of rel
        simp only [Bool.false_and]
        exact .miss this
      | some e2 =>
        rw [hd] at g
        obtain ⟨v2, g1, g2⟩ := g
        rw [g1] at rel
        obtain ⟨u2, r1, r2⟩ := rel.some_of
        have fd : d.fits = true := fx _ List.mem_cons_self
        have fe : e2.fits = true := by
          have : ∃ p ∈ ys, p.2 = e2 := by
            clear g1 g2 hy kb ih rel r1 fd
            induction ys with
            | nil => cases hd
            | cons p ps ihp =>
              obtain ⟨p1, p2⟩ := p
              simp only [dget] at hd
              split at hd
              · cases hd; exact ⟨_, List.mem_cons_self, rfl⟩
              · obtain ⟨p', m, e'⟩ := ihp (fun p hp => fy p (List.mem_cons_of_mem _ hp)) hd
                exact ⟨p', List.mem_cons_of_mem _ m, e'⟩
          obtain ⟨p, m, rfl⟩ := this
          exact fy p m
        have d1 := fits_dep fd
        have d2 := fits_dep fe
        exact .hit r1 (deq_run I x eK d e2 A j k v v2 w2 u2 (by omega) (by omega) (by omega) h1 g2 rv r2).eqP ih
theorem dctOk_fits {kvs : List (D × D)} (h : dctOk kvs = true) : ∀ p ∈ kvs, p.2.fits = true := fun p hp => by
  unfold dctOk at h
  exact (Bool.and_eq_true_iff.mp (List.all_eq_true.mp h p hp)).2
theorem rd_dic {k : Nat} {a : Addr} {u : HO} (x : RIn R H) (h : R.hp k a = some u) : Rd H a u := (x.hp k a u h).rd
theorem dct_rc (I : Inv X pins σ H s) (x : RIn R H) (eK : R.K = X.K) {A : Around} (hu : A.units + 42 < cLine) {j k : Nat} {xs ys : List (D × D)} {v u : V} {a b : Value} (h : Rep R j (.dct false xs) v) (g : Rep R k (.dct false ys) u)
    (ox : dctOk xs = true) (oy : dctOk ys = true) (sx : strHd xs = false) (sy : strHd ys = false) (ra : RelV v a) (rb : RelV u b) (E Q : Value → Shared → Prop) (q : Q (.bool (deq (.dct false xs) (.dct false ys))) s) :
    wpAny (model X.prog X.w) A (richCompare .Eq a b) Q E s := by
  obtain ⟨l, vs, rfl, ks, t, hl, r⟩ := h
  obtain ⟨m, us, rfl, ls, t', hl', r'⟩ := g
  cases ra
  cases rb
  have t1 : R.hp j l = some (.dK (ks.zip vs)) := t.elim id fun z => by rw [sx] at z; cases z.2
  have t2 : R.hp k m = some (.dK (ls.zip us)) := t'.elim id fun z => by rw [sy] at z; cases z.2
  obtain ⟨_, ya, va, ka, da⟩ := dk_rd I.hok (rd_dic x t1)
  obtain ⟨_, yb, vb, kb, db⟩ := dk_rd I.hok (rd_dic x t2)
  refine PySem.W.rcP_dicts (knd := mixKind X.prog X.w) (r := deqk ys xs) ya yb da db (by omega) (fun _ => hits_of I x eK (by show A.units + 1 + 41 < cLine; omega) r' kb (dctOk_fits oy) r ka (dctOk_fits ox)) E Q ?_
  have n1 : va.length = xs.length := by rw [← ka.length, List.length_zip, (repK_len r).1, hl, Nat.min_self]
  have n2 : vb.length = ys.length := by rw [← kb.length, List.length_zip, (repK_len r').1, hl', Nat.min_self]
  rw [n1, n2]
  have : (xs.length == ys.length) = decide (xs.length = ys.length) := by by_cases z : xs.length = ys.length <;> simp [z]
  rw [this]
  exact q
theorem valV_mem : ∀ {kvs : List (Key × V)} {q : Key} {v : V}, (kvs.map (·.1)).Nodup → (q, v) ∈ kvs → valV kvs q = some v
  | [], _, _, _, h => by simp at h
  | (p, w) :: r, q, v, n, h => by
    rw [List.map_cons, List.nodup_cons] at n
    rcases List.mem_cons.mp h with e | m
    · cases e; exact valV_pos rfl
    · have : ¬ p = q := fun e => n.1 (by subst e; exact List.mem_map.mpr ⟨_, m, rfl⟩)
      rw [valV_neg this]
      exact valV_mem n.2 m
theorem dct_same (I : Inv X pins σ H s) (x : RIn R H) (eK : R.K = X.K) {j k : Nat} {ys : List (D × D)} {ls : List Key} {us : List V} (hy : RepK R k ys ls us) (nd : ((ls.zip us).map (·.1)).Nodup) (fy : ∀ p ∈ ys, p.2.fits = true) :
    ∀ {xs : List (D × D)} {ks : List Key} {vs : List V}, RepK R j xs ks vs → (∀ p ∈ ks.zip vs, p ∈ ls.zip us) → (∀ p ∈ xs, p.2.fits = true) → deqk ys xs = true
  | [], _, _, _, _, _ => rfl
  | (a, d) :: r, ks, vs, h, sub, fx => by
    obtain ⟨q, v, qs, ws, rfl, rfl, e, h1, h2⟩ := h
    have ih := dct_same I x eK hy nd fy h2 (fun p hp => sub p (by rw [List.zip_cons_cons]; exact List.mem_cons_of_mem _ hp)) (fun p hp => fx p (List.mem_cons_of_mem _ hp))
    have g := repK_get e hy
    have hv := valV_mem nd (sub (q, v) (by rw [List.zip_cons_cons]; exact List.mem_cons_self))
    simp only [deqk, ih, Bool.and_true]
    cases hd : dget a ys with
    | none =>
      rw [hd] at g
      rw [show valV (ls.zip us) q = none from g] at hv
      cases hv
    | some e2 =>
      rw [hd] at g
      obtain ⟨v2, g1, g2⟩ := g
      rw [hv] at g1
      cases g1
      have fd : d.fits = true := fx _ List.mem_cons_self
      have d1 := fits_dep fd
      have d2 : e2.dep < 1000 := by
        have : ∃ p ∈ ys, p.2 = e2 := by
          clear g2 hy ih fd nd hv sub
          induction ys with
          | nil => cases hd
          | cons p ps ihp =>
            obtain ⟨p1, p2⟩ := p
            simp only [dget] at hd
            split at hd
            · cases hd; exact ⟨_, List.mem_cons_self, rfl⟩
            · obtain ⟨p', m, e'⟩ := ihp (fun p hp => fy p (List.mem_cons_of_mem _ hp)) hd
              exact ⟨p', List.mem_cons_of_mem _ m, e'⟩
        obtain ⟨p, m, rfl⟩ := this
        have := fits_dep (fy p m)
        omega
      have : d = e2 := rep_inj I x eK d e2 j k v (by omega) d2 h1 g2
      subst this
      exact deq_refl d (by omega)
theorem elOk_run (I : Inv X pins σ H s) (x : RIn R H) (eK : R.K = X.K) {A : Around} (hu : A.units + 50 < cLine) {d e : D} {j k : Nat} {v u : V} {a b : Value} (o : elOk d e = true) (h : Rep R j d v) (g : Rep R k e u) (ra : RelV v a) (rb : RelV u b) :
    SeqAt.EqP X.prog X.w A s a b (deq d e) := by
  unfold elOk at o
  split at o
  · rename_i xs ys
    obtain ⟨o1, o2⟩ := Bool.and_eq_true_iff.mp o
    obtain ⟨o1, s1⟩ := Bool.and_eq_true_iff.mp o1
    obtain ⟨o2, s2⟩ := Bool.and_eq_true_iff.mp o2
    have s1 : strHd xs = false := by simpa using s1
    have s2 : strHd ys = false := by simpa using s2
    have step := fun E Q q => dct_rc (A := A) I x eK (by omega) h g o1 o2 s1 s2 ra rb E Q q
    obtain ⟨l, vs, rfl, ks, t, hl, r⟩ := h
    obtain ⟨m, us, rfl, ls, t', hl', r'⟩ := g
    cases ra
    cases rb
    by_cases e : l = m
    · subst e
      have t1 : R.hp j l = some (.dK (ks.zip vs)) := t.elim id fun z => by rw [s1] at z; cases z.2
      have t2 : R.hp k l = some (.dK (ls.zip us)) := t'.elim id fun z => by rw [s2] at z; cases z.2
      have ez : ks.zip vs = ls.zip us := by
        rcases x.hp j l _ t1 with q | ⟨ob, q, _⟩
        · rcases x.hp k l _ t2 with q' | ⟨ob', q', _⟩
          · have z := Option.some.inj (q.symm.trans q')
            injection z
          · exact absurd (Option.some.inj (q.symm.trans q')) (by intro z; cases z)
        · rcases x.hp k l _ t2 with q' | ⟨ob', q', _⟩
          · exact absurd (Option.some.inj (q.symm.trans q')) (by intro z; cases z)
          · have z := Option.some.inj (q.symm.trans q')
            injection z with _ z
            injection z
      obtain ⟨_, _, vb, kb, _, _, _, _, _, _, _, _, nd⟩ := dk_rd I.hok (rd_dic x t2)
      rw [← kb.keys] at nd
      have q : deq (.dct false xs) (.dct false ys) = true := by
        simp only [deq]
        rw [dct_same I x eK r' nd (dctOk_fits o2) r (fun p hp => ez ▸ hp) (dctOk_fits o1), Bool.and_true]
        have n1 := repK_len r
        have n2 := repK_len r'
        have := congrArg List.length ez
        rw [List.length_zip, List.length_zip] at this
        exact decide_eq_true (by omega)
      rw [q]
      exact (SeqAt.EqAt.same _).eqP
    · exact SeqAt.eqP_refs e step
  · obtain ⟨o1, o2⟩ := Bool.and_eq_true_iff.mp o
    have d1 := fits_dep o1
    have d2 := fits_dep o2
    exact (deq_run I x eK d e A j k v u a b (by omega) (by omega) (by omega) h g ra rb).eqP
theorem elsOk_run (I : Inv X pins σ H s) (x : RIn R H) (eK : R.K = X.K) {A : Around} (hu : A.units + 50 < cLine) : ∀ {ds es : List D} {j k : Nat} {vs us : List V} {as bs : List Value}, elsOk ds es = true →
    Reps R j ds vs → Reps R k es us → Vals vs as → Vals us bs → ∀ m (h1 : m < as.length) (h2 : m < bs.length), SeqAt.EqP X.prog X.w A s as[m] bs[m] (pairD ds es m)
  | [], _, _, _, _, _, _, _, _, h, _, ra, _, m, h1, _ => by
    cases h; cases ra; exact absurd h1 (Nat.not_lt_zero _)
  | _ :: _, [], _, _, _, _, _, _, _, _, g, _, rb, m, _, h2 => by
    cases g; cases rb; exact absurd h2 (Nat.not_lt_zero _)
  | d :: ds, e :: es, j, k, vs, us, as, bs, o, h, g, ra, rb, m, h1, h2 => by
    obtain ⟨v, r, rfl, hv, hr⟩ := h
    obtain ⟨u, r', rfl, gv, gr⟩ := g
    obtain ⟨o1, o2⟩ := Bool.and_eq_true_iff.mp o
    cases ra with
    | cons a1 a2 =>
      cases rb with
      | cons b1 b2 =>
        cases m with
        | zero => exact elOk_run I x eK hu o1 hv gv a1 b1
        | succ m => exact elsOk_run I x eK hu o2 hr gr a2 b2 m (Nat.lt_of_succ_lt_succ h1) (Nat.lt_of_succ_lt_succ h2)
end
end Ev
set_option Elab.async false
set_option linter.all false
set_option maxRecDepth 100000
set_option maxHeartbeats 1000000
/-! Ev9: comparisons. -/
namespace Ev
open PySem PySem.Spec PyProof.Rows L2
section
variable {X : Cx} {x y : V} {H : Hp} {Q : VK} {R : RE} {pins : List (Addr × Obj)} {σ : L2.St} {s : Shared}

theorem scT_eq {A : Around} (I : Inv X pins σ H s) (x : RIn R H) (eK : R.K = X.K) (hu : A.units < cLine) {xs : List D} {e : D} {j k : Nat} {v u : V} {a b : Value} (o : e.isScal = true) (h : Rep R j (.tup xs) v) (g : Rep R k e u) (ra : RelV v a) (rb : RelV u b) :
    SeqAt.RcAt A s a b (deq (.tup xs) e) := by
  obtain ⟨l, vs, rfl, t, r⟩ := h
  cases ra
  obtain ⟨its, r1, p1, _⟩ := I.tuple (eK ▸ x.tup t)
  cases e with
  | non => cases g; cases rb; exact SeqAt.RcAt.tuple_none p1 hu
  | bl y => cases g; cases rb; exact SeqAt.RcAt.tuple_bool y p1 hu
  | int y => cases g; obtain ⟨t, rfl⟩ := rb; exact SeqAt.RcAt.tuple_int y t p1 hu
  | str y => cases g; obtain ⟨t, rfl⟩ := rb; exact SeqAt.RcAt.tuple_str y t p1 hu
  | _ => cases o
theorem scX_eq {A : Around} (I : Inv X pins σ H s) (x : RIn R H) (eK : R.K = X.K) (hu : A.units < cLine) {xs : List D} {e : D} {j k : Nat} {v u : V} {a b : Value} (o : e.isScal = true) (h : Rep R j (.tup xs) v) (g : Rep R k e u) (ra : RelV v a) (rb : RelV u b) :
    SeqAt.RcAt A s b a (deq e (.tup xs)) := by
  obtain ⟨l, vs, rfl, t, r⟩ := h
  cases ra
  obtain ⟨its, r1, p1, _⟩ := I.tuple (eK ▸ x.tup t)
  cases e with
  | non => cases g; cases rb; exact SeqAt.RcAt.none_tuple p1 hu
  | bl y => cases g; cases rb; exact SeqAt.RcAt.bool_tuple y p1 hu
  | int y => cases g; obtain ⟨t, rfl⟩ := rb; exact SeqAt.RcAt.int_tuple y t p1 hu
  | str y => cases g; obtain ⟨t, rfl⟩ := rb; exact SeqAt.RcAt.str_tuple y t p1 hu
  | _ => cases o
theorem el_eq (hu : X.A.units + 64 < cLine) (x : RIn R H) (eK : R.K = X.K) {d e : D} {j k : Nat} {v u : V} (o : elOk d e = true) (nd : True) (h : Rep R j d v) (g : Rep R k e u) (q : Q (.bl (deq d e)) H) : WO X (compareOp .Eq) v u H Q := by
  intro σ pins s a b I ra rb
  unfold elOk at o
  split at o
  · obtain ⟨o1, o2⟩ := Bool.and_eq_true_iff.mp o
    obtain ⟨o1, s1⟩ := Bool.and_eq_true_iff.mp o1
    obtain ⟨o2, s2⟩ := Bool.and_eq_true_iff.mp o2
    exact dct_rc (A := X.A) I x eK (by omega) h g o1 o2 (by simpa using s1) (by simpa using s2) ra rb _ _ ⟨.bl _, H, I, rfl, q⟩
  · obtain ⟨o1, o2⟩ := Bool.and_eq_true_iff.mp o
    have d1 := fits_dep o1
    have d2 := fits_dep o2
    exact rc_run (A := X.A) I x eK (by omega) (by omega) (by omega) h g ra rb _ _ _ _ ⟨.bl _, H, I, rfl, q⟩
theorem top_eq (hu : X.A.units + 64 < cLine) (x : RIn R H) (eK : R.K = X.K) {d e : D} {j k : Nat} {v u : V} (o : eqOk d e = true) (nd : True) (h : Rep R j d v) (g : Rep R k e u) (q : Q (.bl (deq d e)) H) : WO X (compareOp .Eq) v u H Q := by
  unfold eqOk at o
  split at o
  · rename_i xs ys
    rcases Bool.or_eq_true_iff.mp o with o | o
    · obtain ⟨o1, o2⟩ := Bool.and_eq_true_iff.mp o
      have d1 := fits_dep o1
      have d2 := fits_dep o2
      intro σ pins s a b I ra rb
      exact rc_run (A := X.A) I x eK (by omega) (by omega) (by omega) h g ra rb _ _ _ _ ⟨.bl _, H, I, rfl, q⟩
    · intro σ pins s a b I ra rb
      obtain ⟨l, vs, rfl, t, r⟩ := h
      obtain ⟨m, ws, rfl, t', r'⟩ := g
      cases ra
      cases rb
      obtain ⟨its, r1, p1, _⟩ := I.tuple (eK ▸ x.tup t)
      obtain ⟨its', r1', p1', _⟩ := I.tuple (eK ▸ x.tup t')
      have n1 : its.toArray.size = xs.length := by rw [List.size_toArray, ← r1.length, r.length]
      have n2 : its'.toArray.size = ys.length := by rw [List.size_toArray, ← r1'.length, r'.length]
      refine tup_rceq (e := pairD xs ys) p1 p1' (by omega) (fun m h1 h2 => ?_) _ _ ?_
      · have := elsOk_run I x eK (A := X.A.in1) (by show X.A.units + 1 + 50 < cLine; omega) o r r' r1 r1' m (by simpa using h1) (by simpa using h2)
        simpa using this
      · rw [n1, n2, deqs_pairs]
        exact ⟨.bl _, H, I, rfl, q⟩
  · rename_i xs e hne
    rcases Bool.or_eq_true_iff.mp o with o | o
    · intro σ pins s a b I ra rb
      exact scT_eq (A := X.A) I x eK (by omega) o h g ra rb _ _ _ _ ⟨.bl _, H, I, rfl, q⟩
    · obtain ⟨o1, o2⟩ := Bool.and_eq_true_iff.mp o
      have d1 := fits_dep o1
      have d2 := fits_dep o2
      intro σ pins s a b I ra rb
      exact rc_run (A := X.A) I x eK (by omega) (by omega) (by omega) h g ra rb _ _ _ _ ⟨.bl _, H, I, rfl, q⟩
  · rename_i xs d hne
    rcases Bool.or_eq_true_iff.mp o with o | o
    · intro σ pins s a b I ra rb
      exact scX_eq (A := X.A) I x eK (by omega) o g h rb ra _ _ _ _ ⟨.bl _, H, I, rfl, q⟩
    · obtain ⟨o1, o2⟩ := Bool.and_eq_true_iff.mp o
      have d1 := fits_dep o1
      have d2 := fits_dep o2
      intro σ pins s a b I ra rb
      exact rc_run (A := X.A) I x eK (by omega) (by omega) (by omega) h g ra rb _ _ _ _ ⟨.bl _, H, I, rfl, q⟩
  · exact el_eq hu x eK o nd h g q

theorem scT_ne {A : Around} (I : Inv X pins σ H s) (x : RIn R H) (eK : R.K = X.K) (hu : A.units < cLine) {xs : List D} {e : D} {j k : Nat} {v u : V} {a b : Value} (o : e.isScal = true) (h : Rep R j (.tup xs) v) (g : Rep R k e u) (ra : RelV v a) (rb : RelV u b) :
    SeqAt.RcNeAt A s a b (!deq (.tup xs) e) := by
  obtain ⟨l, vs, rfl, t, r⟩ := h
  cases ra
  obtain ⟨its, r1, p1, _⟩ := I.tuple (eK ▸ x.tup t)
  cases e with
  | non => cases g; cases rb; exact SeqAt.RcNeAt.tuple_none p1 hu
  | bl y => cases g; cases rb; exact SeqAt.RcNeAt.tuple_bool y p1 hu
  | int y => cases g; obtain ⟨t, rfl⟩ := rb; exact SeqAt.RcNeAt.tuple_int y t p1 hu
  | str y => cases g; obtain ⟨t, rfl⟩ := rb; exact SeqAt.RcNeAt.tuple_str y t p1 hu
  | _ => cases o
theorem scX_ne {A : Around} (I : Inv X pins σ H s) (x : RIn R H) (eK : R.K = X.K) (hu : A.units < cLine) {xs : List D} {e : D} {j k : Nat} {v u : V} {a b : Value} (o : e.isScal = true) (h : Rep R j (.tup xs) v) (g : Rep R k e u) (ra : RelV v a) (rb : RelV u b) :
    SeqAt.RcNeAt A s b a (!deq e (.tup xs)) := by
  obtain ⟨l, vs, rfl, t, r⟩ := h
  cases ra
  obtain ⟨its, r1, p1, _⟩ := I.tuple (eK ▸ x.tup t)
  cases e with
  | non => cases g; cases rb; exact SeqAt.RcNeAt.none_tuple p1 hu
  | bl y => cases g; cases rb; exact SeqAt.RcNeAt.bool_tuple y p1 hu
  | int y => cases g; obtain ⟨t, rfl⟩ := rb; exact SeqAt.RcNeAt.int_tuple y t p1 hu
  | str y => cases g; obtain ⟨t, rfl⟩ := rb; exact SeqAt.RcNeAt.str_tuple y t p1 hu
  | _ => cases o
theorem el_ne (hu : X.A.units + 64 < cLine) (x : RIn R H) (eK : R.K = X.K) {d e : D} {j k : Nat} {v u : V} (o : elOk d e = true) (nd : d.isDct = false) (h : Rep R j d v) (g : Rep R k e u) (q : Q (.bl (!deq d e)) H) : WO X (compareOp .NotEq) v u H Q := by
  intro σ pins s a b I ra rb
  unfold elOk at o
  split at o
  · cases nd
  · obtain ⟨o1, o2⟩ := Bool.and_eq_true_iff.mp o
    have d1 := fits_dep o1
    have d2 := fits_dep o2
    exact rn_run (A := X.A) I x eK (by omega) (by omega) (by omega) h g ra rb _ _ _ _ ⟨.bl _, H, I, rfl, q⟩
theorem top_ne (hu : X.A.units + 64 < cLine) (x : RIn R H) (eK : R.K = X.K) {d e : D} {j k : Nat} {v u : V} (o : eqOk d e = true) (nd : d.isDct = false) (h : Rep R j d v) (g : Rep R k e u) (q : Q (.bl (!deq d e)) H) : WO X (compareOp .NotEq) v u H Q := by
  unfold eqOk at o
  split at o
  · rename_i xs ys
    rcases Bool.or_eq_true_iff.mp o with o | o
    · obtain ⟨o1, o2⟩ := Bool.and_eq_true_iff.mp o
      have d1 := fits_dep o1
      have d2 := fits_dep o2
      intro σ pins s a b I ra rb
      exact rn_run (A := X.A) I x eK (by omega) (by omega) (by omega) h g ra rb _ _ _ _ ⟨.bl _, H, I, rfl, q⟩
    · intro σ pins s a b I ra rb
      obtain ⟨l, vs, rfl, t, r⟩ := h
      obtain ⟨m, ws, rfl, t', r'⟩ := g
      cases ra
      cases rb
      obtain ⟨its, r1, p1, _⟩ := I.tuple (eK ▸ x.tup t)
      obtain ⟨its', r1', p1', _⟩ := I.tuple (eK ▸ x.tup t')
      have n1 : its.toArray.size = xs.length := by rw [List.size_toArray, ← r1.length, r.length]
      have n2 : its'.toArray.size = ys.length := by rw [List.size_toArray, ← r1'.length, r'.length]
      refine tup_rcne (e := pairD xs ys) p1 p1' (by omega) (fun m h1 h2 => ?_) _ _ ?_
      · have := elsOk_run I x eK (A := X.A.in1) (by show X.A.units + 1 + 50 < cLine; omega) o r r' r1 r1' m (by simpa using h1) (by simpa using h2)
        simpa using this
      · rw [n1, n2, deqs_pairs]
        exact ⟨.bl _, H, I, rfl, q⟩
  · rename_i xs e hne
    rcases Bool.or_eq_true_iff.mp o with o | o
    · intro σ pins s a b I ra rb
      exact scT_ne (A := X.A) I x eK (by omega) o h g ra rb _ _ _ _ ⟨.bl _, H, I, rfl, q⟩
    · obtain ⟨o1, o2⟩ := Bool.and_eq_true_iff.mp o
      have d1 := fits_dep o1
      have d2 := fits_dep o2
      intro σ pins s a b I ra rb
      exact rn_run (A := X.A) I x eK (by omega) (by omega) (by omega) h g ra rb _ _ _ _ ⟨.bl _, H, I, rfl, q⟩
  · rename_i xs d hne
    rcases Bool.or_eq_true_iff.mp o with o | o
    · intro σ pins s a b I ra rb
      exact scX_ne (A := X.A) I x eK (by omega) o g h rb ra _ _ _ _ ⟨.bl _, H, I, rfl, q⟩
    · obtain ⟨o1, o2⟩ := Bool.and_eq_true_iff.mp o
      have d1 := fits_dep o1
      have d2 := fits_dep o2
      intro σ pins s a b I ra rb
      exact rn_run (A := X.A) I x eK (by omega) (by omega) (by omega) h g ra rb _ _ _ _ ⟨.bl _, H, I, rfl, q⟩
  · exact el_ne hu x eK o nd h g q

/-! ### in -/
theorem in_vals (I : Inv X pins σ H s) (x : RIn R H) (eK : R.K = X.K) {A : Around} (hu : A.units + 41 < cLine) {d : D} {k l : Nat} {ds : List D} {vs : List V} {its : List Value} {v : V} {a : Value} (fd : d.fits = true) (fs : D.deps ds ≤ 40)
    (h : Reps R k ds vs) (r : Vals vs its) (g : Rep R l d v) (ra : RelV v a) : ∃ e : Value → Bool, (∀ y ∈ its, SeqAt.EqAt A s y a (e y)) ∧ its.any e = ds.any fun y => deq y d := by
  classical
  have d1 := fits_dep fd
  have dep_le : ∀ {ds : List D} {i : Nat} {e : D}, ds[i]? = some e → e.dep ≤ D.deps ds := by
    intro ds
    induction ds with
    | nil => intro i e h; simp at h
    | cons c cs ih =>
      intro i e h
      simp only [D.deps]
      cases i with
      | zero => simp at h; subst h; omega
      | succ i => have := ih (i := i) (e := e) (by simpa using h); omega
  have uniq : ∀ {i j : Nat} {e f : D} {u : Value}, ds[i]? = some e → ds[j]? = some f → its[i]? = some u → its[j]? = some u → e = f := by
    intro i j e f u hi hj ui uj
    obtain ⟨v1, e1, g1⟩ := h.get hi
    obtain ⟨v2, e2, g2⟩ := h.get hj
    obtain ⟨u1, f1, r1⟩ := r.get e1
    obtain ⟨u2, f2, r2⟩ := r.get e2
    rw [ui] at f1; cases f1
    rw [uj] at f2; cases f2
    have := r1.inj r2
    subst this
    have l1 := dep_le hi
    have l2 := dep_le hj
    exact rep_inj I x eK e f k k v1 (by omega) (by omega) g1 g2
  refine ⟨fun u => decide (∃ (i : Nat) (e : D), ds[i]? = some e ∧ its[i]? = some u ∧ deq e d = true), fun u hu' => ?_, ?_⟩
  · obtain ⟨i, hi⟩ := List.mem_iff_getElem?.mp hu'
    have li : i < ds.length := by rw [h.length, r.length]; exact (List.getElem?_eq_some_iff.mp hi).1
    have hd : ds[i]? = some ds[i] := List.getElem?_eq_getElem li
    obtain ⟨v1, e1, g1⟩ := h.get hd
    obtain ⟨u1, f1, r1⟩ := r.get e1
    rw [hi] at f1; cases f1
    have l1 := dep_le hd
    have q := deq_run I x eK ds[i] d A k l v1 v u a (by omega) (by omega) (by omega) g1 g r1 ra
    have : decide (∃ (i : Nat) (e : D), ds[i]? = some e ∧ its[i]? = some u ∧ deq e d = true) = deq ds[i] d := by
      by_cases z : deq ds[i] d = true
      · rw [z]; exact decide_eq_true ⟨i, _, hd, hi, z⟩
      · rw [Bool.not_eq_true] at z
        rw [z]
        refine decide_eq_false fun ⟨j, e, h1, h2, h3⟩ => ?_
        have := uniq h1 hd h2 hi
        subst this
        rw [z] at h3; cases h3
    show SeqAt.EqAt A s u a (decide (∃ (i : Nat) (e : D), ds[i]? = some e ∧ its[i]? = some u ∧ deq e d = true))
    rw [this]
    exact q
  · rw [Bool.eq_iff_iff, List.any_eq_true, List.any_eq_true]
    constructor
    · rintro ⟨u, hu', hq⟩
      obtain ⟨i, e, h1, h2, h3⟩ := of_decide_eq_true hq
      exact ⟨e, List.mem_of_getElem? h1, h3⟩
    · rintro ⟨e, he, hq⟩
      obtain ⟨i, hi⟩ := List.mem_iff_getElem?.mp he
      obtain ⟨v1, e1, g1⟩ := h.get hi
      obtain ⟨u1, f1, r1⟩ := r.get e1
      exact ⟨u1, List.mem_of_getElem? f1, decide_eq_true ⟨i, e, hi, f1, hq⟩⟩
theorem isIn_ok {neg : Bool} (hu : X.A.units + 64 < cLine) (x : RIn R H) (eK : R.K = X.K) (ew : R.w = X.w) {d e : D} {c : Bool} (h : evCmp.isIn d e = .ok c) {j k : Nat} {v u : V} (hv : Rep R j d v) (hu' : Rep R k e u) (g : Q (.bl (if neg then !c else c)) H) :
    WO X (compareOp (if neg then .NotIn else .In)) v u H Q := by
  unfold evCmp.isIn at h
  split at h
  · rename_i ys
    split at h
    · rename_i hf
      cases h
      obtain ⟨f1, f2⟩ := Bool.and_eq_true_iff.mp hf
      have d2 := fits_dep f2
      simp only [D.dep] at d2
      obtain ⟨l, vs, rfl, t, r⟩ := hu'
      intro σ pins s a b I ra rb
      cases rb
      obtain ⟨its, r1, p1, _⟩ := I.list (eK ▸ x.lst t)
      obtain ⟨q, q1, q2⟩ := in_vals I x eK (A := X.A.in1) (by show X.A.units + 1 + 41 < cLine; omega) f1 (by omega) r r1 hv ra
      cases neg with
      | false => exact SeqAt.in_listAt q p1.isList (by simpa using q1) ⟨.bl _, H, I, rfl, by simpa [q2] using g⟩
      | true => exact SeqAt.notIn_listAt q p1.isList (by simpa using q1) ⟨.bl _, H, I, rfl, by simpa [q2] using g⟩
    · cases h
  · rename_i ys
    split at h
    · rename_i hf
      cases h
      obtain ⟨f1, f2⟩ := Bool.and_eq_true_iff.mp hf
      have d2 := fits_dep f2
      simp only [D.dep] at d2
      obtain ⟨l, vs, rfl, t, r⟩ := hu'
      intro σ pins s a b I ra rb
      cases rb
      obtain ⟨its, r1, p1, _⟩ := I.tuple (eK ▸ x.tup t)
      obtain ⟨q, q1, q2⟩ := in_vals I x eK (A := X.A.in1) (by show X.A.units + 1 + 41 < cLine; omega) f1 (by omega) r r1 hv ra
      cases neg with
      | false => exact SeqAt.in_tupleAt q p1 (by simpa using q1) ⟨.bl _, H, I, rfl, by simpa [q2] using g⟩
      | true => exact SeqAt.notIn_tupleAt q p1 (by simpa using q1) ⟨.bl _, H, I, rfl, by simpa [q2] using g⟩
    · cases h
  · rename_i t0 kvs
    split at h
    · rename_i hk
      cases h
      obtain ⟨a, rfl, f⟩ := dct_find (X := X) x eK ew hu' hv hk
      rcases f with ⟨_, o, dg, orp⟩ | ⟨es, n, z, r, kd, rfl, e1, o, e2, orp⟩
      · have eo : o.isSome = (dget d kvs).isSome := by
          revert orp
          cases o <;> cases dget d kvs <;> intro orp <;> first | rfl | exact orp.elim
        intro σ pins s v0 u0 I rx ry
        cases ry
        cases neg with
        | false => exact d_in (by omega) I dg rx fun s3 I3 => ⟨.bl _, H, I3, rfl, by rw [eo]; exact g⟩
        | true => exact d_notIn (by omega) I dg rx fun s3 I3 => ⟨.bl _, H, I3, rfl, by rw [eo]; exact g⟩
      · have eo : r.isSome = (dget d kvs).isSome := by
          rw [← e2.isSome_eq]
          revert orp
          cases o <;> cases dget d kvs <;> intro orp <;> first | rfl | exact orp.elim
        cases neg with
        | false => exact WO.of (op_in_kd kd) ⟨z, r, rfl, rfl, e1, by rw [eo]; exact g⟩
        | true => exact WO.of (op_notIn_kd kd) ⟨z, r, rfl, rfl, e1, by rw [eo]; exact g⟩
    · cases h
  · split at h
    · cases h
      cases hv
      cases hu'
      cases neg with
      | false => exact WO.of op_in_str ⟨_, _, rfl, rfl, g⟩
      | true => exact WO.of op_notin_str ⟨_, _, rfl, rfl, g⟩
    · cases h
  · cases h
theorem cmp_ok {o : CmpOp} {dx dy : DL} {c : Bool} (hu : X.A.units + 64 < cLine) (x : RIn R H) (eK : R.K = X.K) (ew : R.w = X.w) (e : evCmp o dx dy = .ok c) {v u : V} (hv : Rep R dx.2 dx.1 v) (hu' : Rep R dy.2 dy.1 u) (g : Q (.bl c) H) :
    WO X (compareOp o) v u H Q := by
  obtain ⟨d1, k1⟩ := dx
  obtain ⟨d2, k2⟩ := dy
  unfold evCmp at e
  simp only at e hv hu'
  split at e
  · split at e
    · cases e; cases hv; cases hu'
      exact WO.of op_lt ⟨_, _, rfl, rfl, g⟩
    · rename_i xs ys
      split at e
      · rename_i ns ms e1 e2
        cases e
        obtain ⟨a, vs, rfl, t, r⟩ := hv
        obtain ⟨b, ws, rfl, t', r'⟩ := hu'
        rw [asInts_of e1] at r
        rw [asInts_of e2] at r'
        have z1 := eK ▸ x.tup t
        have z2 := eK ▸ x.tup t'
        rw [Reps.ints r] at z1
        rw [Reps.ints r'] at z2
        exact WO.of (op_ltT (by omega)) ⟨a, b, ns, ms, rfl, rfl, z1, z2, g⟩
      · cases e
    · cases e
  · split at e
    · cases e; cases hv; cases hu'
      exact WO.of op_le ⟨_, _, rfl, rfl, g⟩
    · cases e
  · split at e
    · cases e; cases hv; cases hu'
      exact WO.of op_gt ⟨_, _, rfl, rfl, g⟩
    · cases e
  · split at e
    · cases e; cases hv; cases hu'
      exact WO.of op_ge ⟨_, _, rfl, rfl, g⟩
    · cases e
  · split at e
    · rename_i hc
      cases e
      exact top_eq hu x eK hc trivial hv hu' g
    · cases e
  · split at e
    · rename_i hc
      cases e
      obtain ⟨h1, h2⟩ := Bool.and_eq_true_iff.mp hc
      exact top_ne hu x eK h1 (by simpa using h2) hv hu' g
    · cases e
  · split at e
    · cases e
      cases hu'
      refine WO.of op_isN ⟨rfl, ?_⟩
      have : decide (v = V.non) = d1.isNon := by
        cases d1 with
        | non => cases hv; rfl
        | bl b => cases hv; rfl
        | int b => cases hv; rfl
        | str b => cases hv; rfl
        | tup b => obtain ⟨_, _, rfl, _⟩ := hv; rfl
        | lst b => obtain ⟨_, _, rfl, _⟩ := hv; rfl
        | dct t b => cases t <;> (obtain ⟨_, _, rfl, _⟩ := hv; rfl)
        | obj b => obtain ⟨_, rfl, _⟩ := hv; rfl
        | scr b => obtain ⟨_, rfl, _⟩ := hv; rfl
      rw [this]
      exact g
    · cases e
  · split at e
    · cases e
      cases hu'
      refine WO.of op_notN ⟨rfl, ?_⟩
      have : (!decide (v = V.non)) = (!d1.isNon) := by
        cases d1 with
        | non => cases hv; rfl
        | bl b => cases hv; rfl
        | int b => cases hv; rfl
        | str b => cases hv; rfl
        | tup b => obtain ⟨_, _, rfl, _⟩ := hv; rfl
        | lst b => obtain ⟨_, _, rfl, _⟩ := hv; rfl
        | dct t b => cases t <;> (obtain ⟨_, _, rfl, _⟩ := hv; rfl)
        | obj b => obtain ⟨_, rfl, _⟩ := hv; rfl
        | scr b => obtain ⟨_, rfl, _⟩ := hv; rfl
      rw [this]
      exact g
    · cases e
  · exact isIn_ok (neg := false) hu x eK ew e hv hu' g
  · split at e
    · rename_i h
      cases e
      exact isIn_ok (neg := true) hu x eK ew h hv hu' g
    · cases e
end
end Ev
set_option Elab.async false
set_option linter.all false
set_option maxRecDepth 100000
set_option maxHeartbeats 1000000
/-! Ev10: slices, built-in functions, methods. -/
namespace Ev
open PySem PySem.Spec PyProof.Rows L2
section
variable {X : Cx} {x y : V} {H : Hp} {Q : VK} {R : RE}

/-! ### slices -/
def WS (X : Cx) (x : V) (lo hi : Option Int) (H : Hp) (Q : VK) : Prop :=
  ∀ (pins : List (Addr × Obj)) (s : Shared) (σ : L2.St) (v vl vu : Value) (sl : Addr), Inv X pins σ H s → RelV x v → s.heap.IsSliceOf sl vl vu .none → IsPart vl lo → IsPart vu hi →
    ∃ T id, typeLookup (.type T) "__getitem__" = pure (some (.builtin id)) ∧ s.TypeIs v T ∧ wpAny (model X.prog X.w) X.A (getItem v (.ref sl)) (EP X pins σ Q) X.xe s
theorem WS.of {r : V → Option Int → Option Int → Hp → VK → Prop} {lo hi : Option Int} (h : SlR X r) (q : r x lo hi H Q) : WS X x lo hi H Q := fun pins s σ v vl vu sl I rx hs pl pu => h pins s σ H x v vl vu lo hi sl Q I rx hs pl pu q
theorem slR_WS : SlR X (fun x lo hi H Q => WS X x lo hi H Q) := fun pins s σ H x v vl vu lo hi sl Q I rx hs pl pu h => h pins s σ v vl vu sl I rx hs pl pu
theorem reps_cut {k : Nat} {ds : List D} {vs : List V} (lo hi : Option Int) (h : Reps R k ds vs) : Reps R k (cutD ds lo hi) (cutV vs lo hi) := by
  unfold cutD cutV
  rw [← h.length]
  exact (h.drop _).take _
theorem slc_ok {dx r : DL} {lo hi : Option Int} (x : RIn R H) (eK : R.K = X.K) (e : evSlc dx lo hi = .ok r) {v : V} (hv : Rep R dx.2 dx.1 v) (g : Good R H r Q) : WS X v lo hi H Q := by
  obtain ⟨d1, k1⟩ := dx
  unfold evSlc at e
  split at e
  · rename_i q1; cases q1; cases e
    obtain ⟨a, vs, rfl, t, r⟩ := hv
    exact WS.of sl_list ⟨a, vs, rfl, eK ▸ x.lst t, fun p n => g.newL x n (Reps.upL x.inn (reps_cut lo hi r))⟩
  · rename_i q1; cases q1; cases e
    obtain ⟨a, vs, rfl, t, r⟩ := id hv
    refine WS.of sl_tupA ⟨a, vs, rfl, eK ▸ x.tup t, fun hw => ?_, fun _ p n => g.newT x n (reps_cut lo hi r)⟩
    refine g.here x (show Rep R _ (.tup _) _ from ?_)
    rename_i k0 xs
    have : cutD xs lo hi = xs := by
      unfold cutD
      rw [r.length, hw.1, hw.2, List.drop_zero, Nat.sub_zero, ← r.length, List.take_length]
    rw [this]
    exact hv
  · rename_i q1; cases q1; cases hv
    split at e
    · cases e
      exact WS.of sl_str ⟨_, rfl, by assumption, g.here x rfl⟩
    · cases e
  · cases e

/-! ### sorted, least, greatest -/
theorem sortI_of {ns ys : List Int} (h : ys.Perm ns) (p : ys.Pairwise (· ≤ ·)) : ys = sortI ns := by
  have h1 := List.pairwise_mergeSort (le := fun a b : Int => decide (a ≤ b)) (fun a b c h1 h2 => by simp only [decide_eq_true_eq] at *; omega) (fun a b => by simp only [Bool.or_eq_true, decide_eq_true_eq]; omega) ns
  refine List.Perm.eq_of_pairwise (le := fun a b : Int => a ≤ b) (fun a b _ _ h1 h2 => Int.le_antisymm h1 h2) p ?_ (h.trans (List.mergeSort_perm ns _).symm)
  exact h1.imp fun h => by simpa using h
theorem fold_max : ∀ (ns : List Int) (m : Int), (∀ y ∈ m :: ns, y ≤ ns.foldl (fun m x => if x > m then x else m) m) ∧ ns.foldl (fun m x => if x > m then x else m) m ∈ m :: ns
  | [], m => by simp
  | n :: ns, m => by
    obtain ⟨k, hk⟩ : ∃ k, k = if n > m then n else m := ⟨_, rfl⟩
    have hm : m ≤ k ∧ n ≤ k ∧ (k = m ∨ k = n) := by
      rw [hk]; split <;> omega
    have h := fold_max ns k
    rw [List.foldl_cons, ← hk]
    generalize List.foldl (fun m x => if x > m then x else m) k ns = z at h
    have h0 := h.1 k List.mem_cons_self
    refine ⟨fun y hy => ?_, ?_⟩
    · rcases List.mem_cons.mp hy with rfl | hy
      · omega
      · rcases List.mem_cons.mp hy with rfl | hy
        · omega
        · exact h.1 y (List.mem_cons_of_mem _ hy)
    · rcases List.mem_cons.mp h.2 with e | e
      · rw [e]
        rcases hm.2.2 with q | q <;> rw [q] <;> simp
      · exact List.mem_cons_of_mem _ (List.mem_cons_of_mem _ e)
theorem fold_min : ∀ (ns : List Int) (m : Int), (∀ y ∈ m :: ns, ns.foldl (fun m x => if x < m then x else m) m ≤ y) ∧ ns.foldl (fun m x => if x < m then x else m) m ∈ m :: ns
  | [], m => by simp
  | n :: ns, m => by
    obtain ⟨k, hk⟩ : ∃ k, k = if n < m then n else m := ⟨_, rfl⟩
    have hm : k ≤ m ∧ k ≤ n ∧ (k = m ∨ k = n) := by
      rw [hk]; split <;> omega
    have h := fold_min ns k
    rw [List.foldl_cons, ← hk]
    generalize List.foldl (fun m x => if x < m then x else m) k ns = z at h
    have h0 := h.1 k List.mem_cons_self
    refine ⟨fun y hy => ?_, ?_⟩
    · rcases List.mem_cons.mp hy with rfl | hy
      · omega
      · rcases List.mem_cons.mp hy with rfl | hy
        · omega
        · exact h.1 y (List.mem_cons_of_mem _ hy)
    · rcases List.mem_cons.mp h.2 with e | e
      · rw [e]
        rcases hm.2.2 with q | q <;> rw [q] <;> simp
      · exact List.mem_cons_of_mem _ (List.mem_cons_of_mem _ e)
theorem maxL_of {n : Int} {ns : List Int} {m : Int} (h1 : m ∈ n :: ns) (h2 : ∀ y ∈ n :: ns, y ≤ m) : m = maxL (n :: ns) := by
  have h := fold_max ns n
  exact Int.le_antisymm (h.1 m h1) (h2 _ h.2)
theorem minL_of {n : Int} {ns : List Int} {m : Int} (h1 : m ∈ n :: ns) (h2 : ∀ y ∈ n :: ns, m ≤ y) : m = minL (n :: ns) := by
  have h := fold_min ns n
  exact Int.le_antisymm (h2 _ h.2) (h.1 m h1)
theorem reps_bls {k : Nat} : ∀ {ns : List Bool} {vs : List V}, Reps R k (ns.map D.bl) vs → vs = ns.map V.bl
  | [], _, h => h
  | n :: ns, _, h => by
    obtain ⟨v, r, rfl, h1, h2⟩ := h
    rw [reps_bls h2, show v = V.bl n from h1]; rfl

/-! ### a dict's keys -/
theorem repK_keys {k : Nat} : ∀ {kvs : List (D × D)} {ks : List Key} {vs : List V}, RepK R k kvs ks vs → Reps R 0 (keysD kvs) (ks.map kV)
  | [], _, _, h => by obtain ⟨rfl, rfl⟩ := h; exact rfl
  | (y, d) :: r, _, _, h => by
    obtain ⟨q, v, qs, ws, rfl, rfl, e, h1, h2⟩ := h
    refine ⟨kV q, qs.map kV, rfl, ?_, repK_keys h2⟩
    cases y <;> simp only [D.key] at e <;> first | cases e | skip
    all_goals rfl
theorem repK_ints {k : Nat} : ∀ {kvs : List (D × D)} {ks : List Key} {vs : List V} {ns : List Int}, RepK R k kvs ks vs → asInts (keysD kvs) = some ns → ks = ns.map Sum.inl
  | [], _, _, ns, h, e => by
    obtain ⟨rfl, rfl⟩ := h
    simp [keysD, asInts] at e; subst e; rfl
  | (y, d) :: r, _, _, ns, h, e => by
    obtain ⟨q, v, qs, ws, rfl, rfl, ek, h1, h2⟩ := h
    cases y <;> simp only [D.key] at ek <;> first | cases ek | skip
    · simp only [keysD, List.map_cons, asInts] at e
      obtain ⟨ms, e1, rfl⟩ := Option.map_eq_some_iff.mp e
      rw [repK_ints h2 e1]; rfl
    · simp [keysD, asInts] at e
theorem zip_fst {α β : Type} : ∀ {xs : List α} {ys : List β}, xs.length = ys.length → (xs.zip ys).map (·.1) = xs
  | [], [], _ => rfl
  | x :: xs, y :: ys, h => by
    rw [List.zip_cons_cons, List.map_cons, zip_fst (by simpa using h)]
  | [], _ :: _, h => by cases h
  | _ :: _, [], h => by cases h
/-- a dict that is tracked -/
theorem dct_rd (x : RIn R H) {k : Nat} {kvs : List (D × D)} {v : V} (h : Rep R k (.dct false kvs) v) (hs : strHd kvs = false) :
    ∃ a vs ks, v = .ref a ∧ Rd H a (.dK (List.zip ks vs)) ∧ ks.length = vs.length ∧ RepK R (pr k) kvs ks vs := by
  obtain ⟨a, vs, rfl, ks, q, l, r⟩ := h
  rcases q with q | ⟨_, q⟩
  · exact ⟨a, vs, ks, rfl, (x.hp k a _ q).rd, l, r⟩
  · rw [hs] at q; cases q

/-- sorted(d), all keys ints, any number of them -/
theorem call_sortedDA (hcalm : X.calm = true) : CallR X (.builtin "sorted") (fun xs H Q => ∃ (a : Addr) (kvs : List (Key × V)) (ks : List Int), xs = [.ref a] ∧ Rd H a (.dK kvs) ∧ kvs.map (·.1) = ks.map Sum.inl ∧
    ∀ (ys : List Int) (p : Addr), ys.Perm ks → ys.Pairwise (· ≤ ·) → H p = none → Q (.ref p) (upd H p (.lst (ys.map V.int)))) := by
  intro pins s σ H xs us Q I r q
  obtain ⟨a, kvs, ks, ex, hd, hks, q⟩ := q
  subst ex
  obtain ⟨u, eu, rx⟩ := vals1 r
  subst eu
  cases rx
  obtain ⟨z, lo, vs, rel, dd⟩ := dk_rd I.hok hd
  obtain ⟨ep, hat⟩ := dd.dictAt
  have hkeys : vs.map (·.1) = ks.map Sum.inl := rel.keys.symm.trans hks
  have hl : vs.length = ks.length := by
    have e := congrArg List.length hkeys
    rw [List.length_map, List.length_map] at e
    exact e
  have h16 : vs.length ≤ sizeLine := by rw [← rel.length]; exact z
  refine Calls.call_function_entry PyProof.Rows.kind_sorted PyProof.Rows.plain_sorted PyProof.Rows.entry_sorted (PyProof.Rows.args_sorted1 _) ?_
  unfold Builtin.«sorted»
  refine wpAny_bind (m := checkCount "sorted" 1 1 _) (wpAny_pure ?_)
  refine wpAny_bind (PySem.W.kdu_collect (A := X.A.in1) (PySem.W.kdl_dict (knd := mixKind X.prog X.w) (kvs := vs) (ep := ep) lo) (I.ok.hd hcalm) hat h16 fun h' tk acc hk hacc => ?_)
  have hal : acc.toList.length = ks.length := by rw [Array.length_toList, hacc.1, hl]
  have hS : IntsAre acc.toList ks := ints_each hal fun j v e => by
    obtain ⟨k, x, e1, e2⟩ := hacc.2 j v (by rw [← Array.getElem?_toList]; exact e)
    have e3 : (vs.map (·.1))[j]? = some k := by rw [List.getElem?_map, e1]; rfl
    rw [hkeys, List.getElem?_map] at e3
    cases e4 : ks[j]? with
    | none => rw [e4] at e3; cases e3
    | some y =>
      rw [e4] at e3
      have e5 : Sum.inl y = k := Option.some.inj e3
      subst e5
      rcases keyIs_shape (show keyIs (Sum.inl y) v = true from e2) with ⟨i, t, ek, ev⟩ | ⟨z, t, ek, ev⟩
      · cases ek
        exact ⟨y, t, rfl, ev⟩
      · cases ek
  have hz : acc.toList.length ≤ sizeLine := by rw [hal, ← hl]; exact h16
  have I1 : Inv X pins σ H { s with heap := h', toks := tk } := I.kept hk
  refine wpAny_bind (wpAny_newList ?_ hz)
  have hoL : (h'.push (seqObj "list" acc.toList.toArray 0)).get? h'.objs.size = some (seqObj "list" acc.toList.toArray 0) := Heap.get?_push_size _ rfl
  show wpAny _ _ _ _ _ { s with heap := h'.push (seqObj "list" acc.toList.toArray 0), toks := tk }
  refine wpAny_bind (wpAny_holding (wpAny_call_entry PyProof.Rows.slot_list_sort ⟨_, hoL, rfl⟩ PyProof.Rows.entry_list_sort
    (SrtO.list_sort_ord (s := { s with heap := h'.push (seqObj "list" acc.toList.toArray 0), toks := tk }) SrtO.swo_int hoL hz (fun h2 => SrtO.ints_sortable hS h2) fun out g1 g2 => ⟨_, rfl, ?_⟩) (PyProof.Rows.args_list_sort _)))
  obtain ⟨k1, k2, k3⟩ := SrtO.ints_out hS g1 g2
  obtain ⟨e', he'⟩ := PyProof.Rows.sortedHeap_at (vs := acc.toList) (out := out.toArray) hoL
  have hlen : ((out.map SrtO.iv).map V.int).length ≤ sizeLine := by
    rw [List.length_map, k2.length_eq, ← hal]
    exact hz
  refine wpAny_pure ⟨_, rfl, .ref h'.objs.size, upd H h'.objs.size (.lst ((out.map SrtO.iv).map V.int)), I1.laid (t' := tk) (fun b u e => ?_) (Nat.le_refl _)
    (show ObjOk X.prog X.w _ _ _ (.lst ((out.map SrtO.iv).map V.int)) from ⟨hlen, out, e', vals_of_ints k1, he'⟩), rfl, q _ _ k2 k3 (I1.hok.fresh (Nat.le_refl _))⟩
  have hb : b < h'.objs.size := Heap.lt_size e
  rw [PyProof.Rows.sortedHeap_old (Nat.ne_of_lt hb) (by rw [size_push']; exact Nat.lt_succ_of_lt hb)]
  exact Heap.get?_push_of_some _ e

/-! ### dict(pairs) -/
theorem putK_any {y : D} {q : Key} {k : Nat} (hy : y.key = some q) {kvs : List (D × D)} {ks : List Key} {vs : List V} (h : RepK R k kvs ks vs) : (dget y kvs).isSome = (ks.zip vs).any fun kv => decide (kv.1 = q) := by
  have g := repK_get hy h
  have e : ∀ l : List (Key × V), (valV l q).isSome = l.any fun kv => decide (kv.1 = q) := by
    intro l
    induction l with
    | nil => rfl
    | cons p l ih =>
      by_cases hp : p.1 = q
      · rw [show p = (p.1, p.2) from rfl, valV_pos hp, List.any_cons]
        simp [hp]
      · rw [show p = (p.1, p.2) from rfl, valV_neg hp, List.any_cons, ih]
        simp [hp]
  rw [← e]
  revert g
  cases dget y kvs with
  | none => intro g; rw [g]; rfl
  | some d => rintro ⟨w, g, _⟩; rw [g]; rfl
theorem keyEq_sym' {a y : D} {p q : Key} (ha : a.key = some p) (hy : y.key = some q) : keyEq a y = decide (p = q) := keyEq_key ha hy
/-- the map over a dict that has the key -/
theorem repK_map {y d : D} {q : Key} {v : V} {k : Nat} (hy : y.key = some q) (hd : Rep R k d v) : ∀ {kvs : List (D × D)} {ks : List Key} {vs : List V}, RepK R k kvs ks vs → ks.length = vs.length →
    ∃ ws : List V, ws.length = ks.length ∧ (ks.zip vs).map (fun kv => if kv.1 = q then (kv.1, v) else kv) = ks.zip ws ∧ RepK R k (kvs.map fun p => if keyEq p.1 y then (p.1, d) else p) ks ws
  | [], _, _, h, _ => by
    obtain ⟨rfl, rfl⟩ := h
    exact ⟨[], rfl, rfl, rfl, rfl⟩
  | (a, e) :: r, _, _, h, hl => by
    obtain ⟨p, u, ps, us, rfl, rfl, ea, h1, h2⟩ := h
    obtain ⟨ws, l, e1, e2⟩ := repK_map hy hd h2 (by simpa using hl)
    have ek := keyEq_key ea hy
    by_cases hp : p = q
    · refine ⟨v :: ws, by simp [l], ?_, ?_⟩
      · rw [List.zip_cons_cons, List.map_cons, e1, if_pos hp, List.zip_cons_cons]
      · rw [List.map_cons, if_pos (by rw [ek]; exact decide_eq_true hp)]
        exact ⟨p, v, ps, ws, rfl, rfl, ea, hd, e2⟩
    · refine ⟨u :: ws, by simp [l], ?_, ?_⟩
      · rw [List.zip_cons_cons, List.map_cons, e1, if_neg hp, List.zip_cons_cons]
      · rw [List.map_cons, if_neg (by rw [ek]; simp [hp])]
        exact ⟨p, u, ps, ws, rfl, rfl, ea, h1, e2⟩
theorem repK_snoc {y d : D} {q : Key} {v : V} {k : Nat} (hy : y.key = some q) (hd : Rep R k d v) : ∀ {kvs : List (D × D)} {ks : List Key} {vs : List V}, RepK R k kvs ks vs → RepK R k (kvs ++ [(y, d)]) (ks ++ [q]) (vs ++ [v])
  | [], _, _, h => by
    obtain ⟨rfl, rfl⟩ := h
    exact ⟨q, v, [], [], rfl, rfl, hy, hd, rfl, rfl⟩
  | (a, e) :: r, _, _, h => by
    obtain ⟨p, u, ps, us, rfl, rfl, ea, h1, h2⟩ := h
    exact ⟨p, u, ps ++ [q], us ++ [v], rfl, rfl, ea, h1, repK_snoc hy hd h2⟩
/-- a store in a dict -/
theorem repK_put {y d : D} {q : Key} {v : V} {k : Nat} (hy : y.key = some q) (hd : Rep R k d v) {kvs : List (D × D)} {ks : List Key} {vs : List V} (h : RepK R k kvs ks vs) (hl : ks.length = vs.length) :
    ∃ (ls : List Key) (ws : List V), ls.length = ws.length ∧ putK (ks.zip vs) q v = ls.zip ws ∧ RepK R k (dput kvs y d) ls ws := by
  unfold dput putK
  rw [putK_any hy h]
  split
  · obtain ⟨ws, l, e1, e2⟩ := repK_map hy hd h hl
    exact ⟨ks, ws, l.symm, e1, e2⟩
  · refine ⟨ks ++ [q], vs ++ [v], by simp [hl], ?_, repK_snoc hy hd h⟩
    rw [List.zip_append hl]; rfl
theorem repK_merge {k : Nat} : ∀ {ps : List (D × D)} {qs : List (Key × V)} {kvs : List (D × D)} {ks : List Key} {vs : List V}, Paired (fun (p : D × D) (q : Key × V) => p.1.key = some q.1 ∧ Rep R k p.2 q.2) ps qs → RepK R k kvs ks vs → ks.length = vs.length →
    ∃ (ls : List Key) (ws : List V), ls.length = ws.length ∧ mergeK (ks.zip vs) qs = ls.zip ws ∧ RepK R k (ps.foldl (fun m p => dput m p.1 p.2) kvs) ls ws
  | [], _, _, ks, vs, h, g, l => by cases h; exact ⟨ks, vs, l, rfl, g⟩
  | p :: ps, _, _, ks, vs, h, g, l => by
    cases h with
    | cons r t =>
      rename_i q qs
      obtain ⟨ls, ws, l', e, g'⟩ := repK_put r.1 r.2 g l
      obtain ⟨ls2, ws2, l2, e2, g2⟩ := repK_merge t g' l'
      refine ⟨ls2, ws2, l2, ?_, g2⟩
      rw [← e2, ← e]
      rfl
/-- a list of pairs, by its tuples -/
theorem reps_pairs (x : RIn R H) (eK : R.K = X.K) {k : Nat} : ∀ {ds : List D} {vs : List V} {ps : List (D × D)}, Reps R k ds vs → asPairs ds = some ps → (ps.all fun p => p.1.key.isSome) = true →
    ∃ (as : List Addr) (kvs : List (Key × V)), vs = as.map V.ref ∧ Paired (fun p kv => SqT X.K H p [kV kv.1, kv.2]) as kvs ∧ Paired (fun (p : D × D) (q : Key × V) => p.1.key = some q.1 ∧ Rep R (pr k) p.2 q.2) ps kvs
  | [], vs, ps, h, e, _ => by
    simp only [asPairs] at e; cases e
    cases h
    exact ⟨[], [], rfl, .nil, .nil⟩
  | d :: ds, vs, ps, h, e, ok => by
    obtain ⟨v, r, rfl, h1, h2⟩ := h
    unfold asPairs at e
    split at e
    · rename_i q; cases q
    · rename_i a b ds' q
      cases q
      obtain ⟨ms, e1, rfl⟩ := Option.map_eq_some_iff.mp e
      rw [List.all_cons, Bool.and_eq_true] at ok
      obtain ⟨as, kvs, rfl, p1, p2⟩ := reps_pairs x eK h2 e1 ok.2
      obtain ⟨t, us, rfl, ht, u1, w1, rfl, ra, u2, w2, rfl, rb, ew⟩ := h1
      cases ew
      obtain ⟨q, hq⟩ := Option.isSome_iff_exists.mp ok.1
      have := key_V hq ra
      subst this
      exact ⟨t :: as, (q, u2) :: kvs, rfl, .cons (eK ▸ x.tup ht) p1, .cons ⟨hq, rb⟩ p2⟩
    · cases e

theorem Good.newD {kvs : List (D × D)} {ks : List Key} {ws : List V} {k : Nat} {p : Addr} (g : Good R H (.dct false kvs, k) Q) (x : RIn R H) (n : H p = none) (l : ks.length = ws.length) (h : RepK R (pr k) kvs ks ws) : Q (.ref p) (upd H p (.dK (ks.zip ws))) :=
  g _ _ _ (.new x k n) ⟨p, ws, rfl, ks, .inl (R.lay_hp k p _), l, h.ext (.lay x k n)⟩

/-! ### the built-in functions' values -/
def Blt.fn : Blt → Value
  | .len => .builtin "len"
  | .abs => .builtin "abs"
  | .min => .builtin "min"
  | .max => .builtin "max"
  | .int => .type "int"
  | .str => .type "str"
  | .sum => .builtin "sum"
  | .all => .builtin "all"
  | .any => .builtin "any"
  | .sorted => .builtin "sorted"
  | .list => .type "list"
  | .tuple => .type "tuple"
  | .dict => .type "dict"
  | .isTup => .builtin "isinstance"
def Blt.nm : Blt → Str
  | .len => "len"
  | .abs => "abs"
  | .min => "min"
  | .max => "max"
  | .int => "int"
  | .str => "str"
  | .sum => "sum"
  | .all => "all"
  | .any => "any"
  | .sorted => "sorted"
  | .list => "list"
  | .tuple => "tuple"
  | .dict => "dict"
  | .isTup => "isinstance"
theorem len_dT {a : Addr} {kvs : List (List Key × V)} (h : Rd H a (.dT kvs)) (q : Q (.int kvs.length) H) : WC X (.builtin "len") [.ref a] H Q := by
  intro σ pins s us I r
  obtain ⟨u, rfl, rx⟩ := vals1 r
  obtain rfl : u = .ref a := rx
  obtain ⟨z, hd, ys, rel, dd⟩ := dt_rd I.hok h
  have hl : kvs.length = ys.length := Paired.length rel
  refine call_len_dictH hd dd (by rw [← hl]; rw [sizeLine_eq] at z; omega) ?_
  rw [← hl]
  exact ⟨.int ((kvs.length : Nat) : Int), H, I.tok _, ⟨_, rfl⟩, q⟩
theorem len_dK {a : Addr} {kvs : List (Key × V)} (h : Rd H a (.dK kvs)) (q : Q (.int kvs.length) H) : WC X (.builtin "len") [.ref a] H Q := by
  intro σ pins s us I r
  obtain ⟨u, rfl, rx⟩ := vals1 r
  obtain rfl : u = .ref a := rx
  exact d_len I h fun t s' I' => ⟨.int kvs.length, H, I', ⟨_, rfl⟩, q⟩
theorem repT_len {k : Nat} : ∀ {kvs : List (D × D)} {ks : List (List Key)} {vs : List V}, RepT R k kvs ks vs → kvs.length = ks.length ∧ kvs.length = vs.length
  | [], _, _, h => by obtain ⟨rfl, rfl⟩ := h; exact ⟨rfl, rfl⟩
  | p :: r, _, _, h => by
    obtain ⟨q, v, qs, ws, rfl, rfl, _, _, h2⟩ := h
    have := repT_len h2
    simp [this.1.symm, this.2.symm]

theorem blt_ok {b : Blt} {dxs : List DL} {r : DL} (hb : b ≠ .isTup) (x : RIn R H) (eK : R.K = X.K) (hc : X.calm = true) (e : evBlt b dxs = .ok r) {vs : List V} (hv : Paired (fun (d : DL) v => Rep R d.2 d.1 v) dxs vs) (g : Good R H r Q) : WC X b.fn vs H Q := by
  unfold evBlt at e
  split at e
  · cases e
    cases hv with | cons h t => cases t with | nil =>
    obtain ⟨a, us, rfl, t, r⟩ := h
    exact WC.of call_len_seq ⟨a, us, rfl, .inl (eK ▸ x.lst t), by rw [← r.length]; exact g.here x rfl⟩
  · cases e
    cases hv with | cons h t => cases t with | nil =>
    obtain ⟨a, us, rfl, t, r⟩ := h
    exact WC.of call_len_seq ⟨a, us, rfl, .inr (eK ▸ x.tup t), by rw [← r.length]; exact g.here x rfl⟩
  · cases e
    cases hv with | cons h t => cases t with | nil =>
    obtain ⟨a, rfl, t⟩ := h
    exact WC.of call_len_seq ⟨a, _, rfl, .inl (eK ▸ x.scr a _ t), by rw [List.length_map]; exact g.here x rfl⟩
  · rename_i t kvs k
    cases hv with | cons h t => cases t with | nil =>
    split at e
    · cases e
    · rename_i hs
      cases e
      cases t with
      | false =>
        obtain ⟨a, us, ks, rfl, q, l, r⟩ := dct_rd x h (by simpa using hs)
        have := repK_len r
        refine len_dK q ?_
        rw [List.length_zip, l, Nat.min_self, ← this.2]
        exact g.here x rfl
      | true =>
        obtain ⟨a, us, rfl, ks, q, l, r⟩ := h
        have := repT_len r
        refine len_dT (x.hp k a _ q).rd ?_
        rw [List.length_zip, l, Nat.min_self, ← this.2]
        exact g.here x rfl
  · cases hv with | cons h t => cases t with | nil =>
    split at e
    · cases e; cases h
      exact WC.of call_len_str ⟨_, rfl, by assumption, g.here x rfl⟩
    · cases e
  · cases e
    cases hv with | cons h t => cases t with | nil =>
    cases h
    exact WC.of call_abs ⟨_, rfl, g.here x rfl⟩
  · cases e
    cases hv with | cons h t => cases t with | cons h2 t => cases t with | nil =>
    cases h; cases h2
    exact WC.of (call_min2 hc) ⟨_, _, rfl, g.here x rfl⟩
  · cases e
    cases hv with | cons h t => cases t with | cons h2 t => cases t with | nil =>
    cases h; cases h2
    exact WC.of (call_max2 hc) ⟨_, _, rfl, g.here x rfl⟩
  · cases hv with | cons h t => cases t with | nil =>
    split at e
    · rename_i n ns q
      cases e
      rw [asInts_of q] at h
      obtain ⟨a, us, rfl, t, r⟩ := h
      have := r.ints
      subst this
      exact WC.of (cr_min hc) ⟨a, n :: ns, rfl, eK ▸ x.lst t, by simp, fun m h1 h2 => by rw [minL_of h1 h2]; exact g.here x rfl⟩
    · cases e
  · cases hv with | cons h t => cases t with | nil =>
    split at e
    · rename_i n ns q
      cases e
      rw [asInts_of q] at h
      obtain ⟨a, us, rfl, t, r⟩ := h
      have := r.ints
      subst this
      exact WC.of (cr_max hc) ⟨a, n :: ns, rfl, eK ▸ x.lst t, by simp, fun m h1 h2 => by rw [maxL_of h1 h2]; exact g.here x rfl⟩
    · cases e
  · cases e
    cases hv with | cons h t => cases t with | nil =>
    cases h
    exact WC.of call_int1 (.inl ⟨_, rfl, g.here x rfl⟩)
  · cases e
    cases hv with | cons h t => cases t with | nil =>
    cases h
    exact WC.of call_int1 (.inr ⟨_, rfl, g.here x rfl⟩)
  · cases hv with | cons h t => cases t with | nil =>
    split at e
    · rename_i q
      cases e; cases h
      exact WC.of call_str_int ⟨_, rfl, of_decide_eq_true q, g.here x rfl⟩
    · cases e
  · cases e
    cases hv with | cons h t => cases t with | nil =>
    cases h
    exact WC.of SkE.call_str_str ⟨_, rfl, g.here x rfl⟩
  · cases hv with | cons h t => cases t with | nil =>
    split at e
    · rename_i ns q
      cases e
      rw [asInts_of q] at h
      obtain ⟨a, us, rfl, t, r⟩ := h
      have := r.ints
      subst this
      exact WC.of (cr_sum hc) ⟨a, ns, rfl, eK ▸ x.lst t, g.here x rfl⟩
    · cases e
  · cases hv with | cons h t => cases t with | nil =>
    split at e
    · rename_i ns q
      cases e
      rw [asBls_of q] at h
      obtain ⟨a, us, rfl, t, r⟩ := h
      have := reps_bls r
      subst this
      exact WC.of (cr_all hc) ⟨a, ns, rfl, eK ▸ x.lst t, g.here x rfl⟩
    · cases e
  · cases hv with | cons h t => cases t with | nil =>
    split at e
    · rename_i ns q
      cases e
      rw [asBls_of q] at h
      obtain ⟨a, us, rfl, t, r⟩ := h
      have := reps_bls r
      subst this
      exact WC.of (cr_any hc) ⟨a, ns, rfl, eK ▸ x.lst t, g.here x rfl⟩
    · cases e
  · cases hv with | cons h t => cases t with | nil =>
    split at e
    · rename_i ns q
      cases e
      rw [asInts_of q] at h
      obtain ⟨a, us, rfl, t, r⟩ := h
      have := r.ints
      subst this
      exact WC.of cr_sortedI ⟨a, ns, rfl, eK ▸ x.lst t, fun ys p h1 h2 n => by rw [sortI_of h1 h2]; exact g.newL x n (Reps.of_ints _)⟩
    · cases e
  · cases hv with | cons h t => cases t with | nil =>
    split at e
    · rename_i ns q
      split at e
      · cases e
        rename_i kvs _ _ _ _
        have hs : strHd kvs = false := by
          cases kvs with
          | nil => rfl
          | cons p r =>
            obtain ⟨y, d⟩ := p
            cases y <;> first | rfl | (simp [keysD, asInts] at q)
        obtain ⟨a, us, ks, rfl, qd, l, r⟩ := dct_rd x h hs
        have := repK_ints r q
        subst this
        refine WC.of (call_sortedDA hc) ⟨a, List.zip (ns.map Sum.inl) us, ns, rfl, qd, zip_fst l, fun ys p h1 h2 n => by rw [sortI_of h1 h2]; exact g.newL x n (Reps.of_ints _)⟩
      · cases e
    · cases e
  · cases e
    cases hv with | cons h t => cases t with | nil =>
    obtain ⟨a, us, rfl, t, r⟩ := h
    exact WC.of call_list_of ⟨a, us, rfl, .inl (eK ▸ x.lst t), fun p n => g.newL x n (Reps.upL x.inn r)⟩
  · cases e
    cases hv with | cons h t => cases t with | nil =>
    obtain ⟨a, us, rfl, t, r⟩ := h
    exact WC.of call_list_of ⟨a, us, rfl, .inr (eK ▸ x.tup t), fun p n => g.newL x n (Reps.upL x.inn r)⟩
  · cases e
    cases hv with | cons h t => cases t with | nil =>
    obtain ⟨a, us, rfl, t, r⟩ := h
    exact WC.of call_tuple_of ⟨a, us, rfl, .inl ⟨eK ▸ x.lst t, fun p n => g.newT x n (Reps.upL x.inn r)⟩⟩
  · cases e
    cases hv with | cons h t => cases t with | nil =>
    obtain ⟨a, us, rfl, t, r⟩ := id h
    exact WC.of call_tuple_of ⟨a, us, rfl, .inr ⟨eK ▸ x.tup t, g.here x h⟩⟩
  · cases hv with | cons h t => cases t with | nil =>
    split at e
    · cases e
    · rename_i hs
      cases e
      obtain ⟨a, us, ks, rfl, qd, l, r⟩ := dct_rd x h (by simpa using hs)
      exact WC.of call_dictD ⟨a, _, rfl, qd, fun p n => g.newD x n l (RepK.up x.inn _ _ _ _ _ (le_pr_upL _) r)⟩
  · cases hv with | cons h t => cases t with | nil =>
    split at e
    · rename_i ps q
      split at e
      · rename_i ok
        cases e
        obtain ⟨a, us, rfl, t, r⟩ := h
        obtain ⟨as, kvs, rfl, p1, p2⟩ := reps_pairs (X := X) x eK r q ok
        obtain ⟨ls, ws, l, e2, g2⟩ := repK_merge (kvs := []) (ks := []) (vs := []) p2 ⟨rfl, rfl⟩ rfl
        refine WC.of (call_dictP hc) ⟨a, as, kvs, rfl, eK ▸ x.lst t, p1, fun p n => ?_⟩
        rw [show ([] : List (Key × V)) = List.zip [] [] from rfl, e2]
        exact g.newD x n l (RepK.up x.inn _ _ _ _ _ (le_pr_upL _) g2)
      · cases e
    · cases e
  · cases hv with | cons h t => cases t with | nil =>
    split at e
    · cases e
    · rename_i hs
      cases e
      obtain ⟨a, us, ks, rfl, qd, l, r⟩ := dct_rd x h (by simpa using hs)
      refine WC.of (call_listD hc) ⟨a, _, rfl, qd, fun p n => ?_⟩
      have e1 : (List.zip ks us).map (fun kv => kV kv.1) = ks.map kV := by
        rw [show (fun kv : Key × V => kV kv.1) = kV ∘ (·.1) from rfl, ← List.map_map, zip_fst l]
      rw [e1]
      exact g.newL x n (repK_keys r)
  · exact absurd rfl hb
  · cases e
end
end Ev
set_option Elab.async false
set_option linter.all false
set_option maxRecDepth 100000
set_option maxHeartbeats 1000000
/-! Ev11: what loops and comprehensions walk. -/
namespace Ev
open PySem PySem.Spec PyProof.Rows L2

/-! ### zip of lists, tuples, texts in any mix -/
inductive Src where
  | lst (a : Addr) (xs : List V) | tup (a : Addr) (xs : List V) | str (x : Str) (t : Tok)
def Src.vals : Src → List V
  | .lst _ xs => xs
  | .tup _ xs => xs
  | .str x _ => x.cps.toList.map fun c => V.str ⟨#[c]⟩
def Src.has (K : PySem.W.Frag) (H : Hp) : Src → Prop
  | .lst a xs => SqL K H a xs
  | .tup a xs => SqT K H a xs
  | .str _ _ => True
def Src.iter (it : Addr) (i : Nat) (h : Heap) : Src → Prop
  | .lst a _ => h.IsListIter it a i
  | .tup a _ => h.IsTupleIter it a i
  | .str x t => h.IsStrIter it (strIterType x) x t i
def Src.ads : Src → List Addr
  | .lst a _ => [a]
  | .tup a _ => [a]
  | .str _ _ => []
def Src.val : Src → Value
  | .lst a _ => .ref a
  | .tup a _ => .ref a
  | .str x t => .str x t
def Src.v : Src → V
  | .lst a _ => .ref a
  | .tup a _ => .ref a
  | .str x _ => .str x
section
variable {X : Cx} {pins : List (Addr × Obj)} {σ : L2.St} {H : Hp} {s : Shared}
theorem src_draws (I : Inv X pins σ H s) {A : Around} (hh : A.handled = none) {it : Addr} : ∀ (r : Src), r.has X.K H → it ∉ r.ads → ∃ P St, Draws X.prog X.w A it (it :: r.ads) r.vals.length P St ∧ (∀ i, r.iter it i s.heap → St i s.heap) ∧ (∀ i h, St i h → r.iter it i h) ∧ ∀ i v, P i v → ∃ x, r.vals[i]? = some x ∧ RelV x v
  | .lst a xs, h, ne => by
    obtain ⟨its, rv, p, _⟩ := I.list h
    have hl : xs.length = its.toArray.size := by rw [List.size_toArray]; exact rv.length
    have ne' : a ≠ it := fun e => ne (by simp [Src.ads, e])
    have D := Draws.list (prog := X.prog) (w := X.w) hh it a ne' its.toArray
    rw [← hl] at D
    refine ⟨_, _, D, fun i hi => ⟨hi, p.isList⟩, fun i h q => q.1, fun i v q => ?_⟩
    have q : its[i]? = some v := by simpa using q
    have hi : i < xs.length := by rw [rv.length]; exact (List.getElem?_eq_some_iff.mp q).1
    obtain ⟨u, e1, e2⟩ := rv.get (List.getElem?_eq_getElem hi)
    rw [q] at e1; cases e1
    exact ⟨_, List.getElem?_eq_getElem hi, e2⟩
  | .tup a xs, h, ne => by
    obtain ⟨its, rv, p, _⟩ := I.tuple h
    have hl : xs.length = its.toArray.size := by rw [List.size_toArray]; exact rv.length
    have ne' : a ≠ it := fun e => ne (by simp [Src.ads, e])
    have D := Draws.tuple (prog := X.prog) (w := X.w) hh it a ne' its.toArray
    rw [← hl] at D
    refine ⟨_, _, D, fun i hi => ⟨hi, p⟩, fun i h q => q.1, fun i v q => ?_⟩
    have q : its[i]? = some v := by simpa using q
    have hi : i < xs.length := by rw [rv.length]; exact (List.getElem?_eq_some_iff.mp q).1
    obtain ⟨u, e1, e2⟩ := rv.get (List.getElem?_eq_getElem hi)
    rw [q] at e1; cases e1
    exact ⟨_, List.getElem?_eq_getElem hi, e2⟩
  | .str x t, h, ne => by
    have D := Draws.text (prog := X.prog) (w := X.w) hh it x t
    have hl : (Src.str x t).vals.length = x.cps.size := by simp [Src.vals]
    rw [← hl] at D
    refine ⟨_, _, D, fun i hi => hi, fun i h q => q, fun i v q => ?_⟩
    obtain ⟨c, u, e, rfl⟩ := q
    refine ⟨.str ⟨#[c]⟩, ?_, u, rfl⟩
    have e' : x.cps.toList[i]? = some c := by simpa using e
    simp [Src.vals, e]
theorem src_begins (I : Inv X pins σ H s) : ∀ (r : Src), r.has X.K H → ∃ o Hh, Begins r.val o Hh ∧ Hh s.heap ∧ ∀ (it : Addr) (h : Heap), h.get? it = some o → r.iter it 0 h
  | .lst a xs, h => by
    obtain ⟨its, rv, p, _⟩ := I.list h
    exact ⟨_, _, begins_list a its.toArray, p.isList, fun it h e => ⟨_, e, rfl, rfl⟩⟩
  | .tup a xs, h => by
    obtain ⟨its, rv, p, _⟩ := I.tuple h
    exact ⟨_, _, begins_tuple a its.toArray, p, fun it h e => ⟨_, e, rfl, rfl⟩⟩
  | .str x t, h => ⟨_, _, begins_text x t, trivial, fun it h e => ⟨_, e, rfl, rfl⟩⟩
theorem src_ads (I : Inv X pins σ H s) : ∀ (r : Src), r.has X.K H → ∀ b ∈ r.ads, b < s.heap.objs.size
  | .lst a xs, h => by
    obtain ⟨its, rv, ⟨o, _, e, _⟩, _⟩ := I.list h
    intro b hb
    have : b = a := by simpa [Src.ads] using hb
    subst this
    exact Heap.lt_size e
  | .tup a xs, h => by
    obtain ⟨its, rv, ⟨o, e, _⟩, _⟩ := I.tuple h
    intro b hb
    have : b = a := by simpa [Src.ads] using hb
    subst this
    exact Heap.lt_size e
  | .str x t, h => by intro b hb; cases hb
theorem src_keep {r : Src} {it : Addr} {i : Nat} {h h' : Heap} (q : r.iter it i h) (k : ∀ o, h.get? it = some o → h'.get? it = some o) : r.iter it i h' := by
  cases r with
  | lst a xs => exact Heap.IsListIter.at q k
  | tup a xs => exact Heap.IsTupleIter.at q k
  | str x t => obtain ⟨o, e, z⟩ := q; exact ⟨o, k o e, z⟩
theorem src_obj {r : Src} {it : Addr} {i : Nat} {h : Heap} (q : r.iter it i h) : ∃ o, h.get? it = some o ∧ ∀ v, o.data ≠ .cell v := by
  cases r with
  | lst a xs => obtain ⟨o, e, _, d⟩ := q; exact ⟨o, e, fun v z => by rw [d] at z; cases z⟩
  | tup a xs => obtain ⟨o, e, _, d⟩ := q; exact ⟨o, e, fun v z => by rw [d] at z; cases z⟩
  | str x t => obtain ⟨o, e, _, d⟩ := q; exact ⟨o, e, fun v z => by rw [d] at z; cases z⟩
end
theorem lt5 {c N n : Nat} (e : c = N + 4 ∨ c = N + 2 ∨ c = N + 3 ∨ c = N ∨ c = N + 1) (h : N + 4 < n) : c < n := by omega
theorem le5 {c N : Nat} (e : c = N + 4 ∨ c = N + 2 ∨ c = N + 3 ∨ c = N ∨ c = N + 1) : N ≤ c := by omega
def ItzS (K : PySem.W.Frag) (r1 r2 : Src) : It :=
  ⟨fun i H => r1.has K H ∧ r2.has K H ∧ i < r1.vals.length ∧ i < r2.vals.length,
    fun i H v H' => ∃ T x y, v = .ref T ∧ H T = none ∧ H' = upd H T (.tup [x, y]) ∧ r1.vals[i]? = some x ∧ r2.vals[i]? = some y,
    fun i H => r1.has K H ∧ r2.has K H ∧ i ≤ r1.vals.length ∧ i ≤ r2.vals.length ∧ (i = r1.vals.length ∨ i = r2.vals.length)⟩
theorem turn_zipS {P : Program} {w : World} {K : PySem.W.Frag} {elts : List Expr} {kk : Nat} {tpos : Pos} {N : Nat} {r1 r2 : Src} (h1 : ∀ b ∈ r1.ads, b < N) (h2 : ∀ b ∈ r2.ads, b < N) :
    Turn P w K (.Tuple elts kk tpos) (ItzS K r1 r2) [N + 4, N + 2, N + 3, N, N + 1] (N + 4) (fun i h => IsZip h (N + 4) (N + 2) (N + 3) .none ∧ IsTupOf2 h (N + 2) (.ref N) (.ref (N + 1)) ∧ (∃ x y, IsTupOf2 h (N + 3) x y) ∧ r1.iter N i h ∧ r2.iter (N + 1) i h) where
  mem := by simp
  obj := fun i h st c hc => by
    obtain ⟨hz, hTI, ⟨x, y, hTO⟩, i1, i2⟩ := st
    have e' : c = N + 4 ∨ c = N + 2 ∨ c = N + 3 ∨ c = N ∨ c = N + 1 := by simpa using hc
    rcases e' with q | q | q | q | q
    · rw [q]; exact ⟨_, hz, fun v q => nomatch q⟩
    · rw [q]; exact ⟨_, hTI, fun v q => nomatch q⟩
    · rw [q]; exact ⟨_, hTO, fun v q => nomatch q⟩
    · rw [q]; exact src_obj i1
    · rw [q]; exact src_obj i2
  keep := fun i h h' st k => by
    obtain ⟨hz, hTI, ⟨x, y, hTO⟩, i1, i2⟩ := st
    exact ⟨k _ (by simp) _ hz, k _ (by simp) _ hTI, ⟨x, y, k _ (by simp) _ hTO⟩, src_keep i1 fun o q => k _ (by simp) o q, src_keep i2 fun o q => k _ (by simp) o q⟩
  item := by
    intro X hP hw hK hc i pins s σ H E I hf st hg
    subst hP hw hK
    obtain ⟨hz, hTI, ⟨x0, y0, hTO⟩, j1, j2⟩ := st
    obtain ⟨q1, q2, l1, l2⟩ := hg
    have n1 : N ∉ r1.ads := fun z => Nat.lt_irrefl _ (h1 _ z)
    have n2 : N + 1 ∉ r2.ads := fun z => Nat.lt_irrefl _ (Nat.lt_of_succ_lt (h2 _ z))
    obtain ⟨P1, St1, D1, a1, b1, c1⟩ := src_draws I (A := X.A.in1) (I.ok.hd hc) r1 q1 n1
    obtain ⟨P2, St2, D2, a2, b2, c2⟩ := src_draws I (A := X.A.in1) (I.ok.hd hc) r2 q2 n2
    have S := zip_sep2 (N := N) h1 h2
    have hzl : N + 4 < s.heap.objs.size := Heap.lt_size hz
    refine wpAny_pyNext_zipD2_item S D1 D2 hz hTI hTO (a1 i j1) (a2 i j2) l1 l2 fun u u2 h' tk p1 p2 z' TO' s1' s2' hT hsz hk => ?_
    obtain ⟨x, hx, ru⟩ := c1 i u p1
    obtain ⟨y, hy, ru2⟩ := c2 i u2 p2
    refine ⟨_, rfl, wpAny_letOwnedTupleGo_zip (s := { s with heap := h', toks := tk }) z' fun h'' z'' sb => ?_⟩
    have hT2 : h''.get? s.heap.objs.size = some { cls := .type "tuple", data := .seq #[u, u2] } := (sb.2 _ (Nat.ne_of_gt hzl)).trans hT
    have new : ObjOk X.prog X.w (upd H s.heap.objs.size (.tup [x, y])) h'' s.heap.objs.size (.tup [x, y]) :=
      ⟨by show 2 ≤ sizeLine; decide, [u, u2], .cons ru (.cons ru2 .nil), ⟨_, hT2, rfl, _, rfl⟩⟩
    have I1 : Inv X pins σ (upd H s.heap.objs.size (.tup [x, y])) { s with heap := h'', toks := tk } :=
      I.turnedNew (ch := [N + 4, N + 2, N + 3, N, N + 1]) (fun c o hb q => (sb.2 c (fun q' => hb (by simp [q']))).trans (hk c o (fun q' => hb (by simp [q'])) (fun q' => hb (by simp [q'])) (fun q' => hb (by simp [q'])) (fun q' => hb (by simp [q'])) q)) hf (Nat.le_refl _) new
    refine ⟨.ref s.heap.objs.size, _, I1, rfl, ⟨_, x, y, rfl, I.hok.fresh (Nat.le_refl _), rfl, hx, hy⟩, ⟨z'', ?_, ⟨u, u2, ?_⟩, ?_, ?_⟩, fun c hcm => ?_⟩
    · exact (sb.2 _ S.TIz).trans (hk _ _ S.TIz S.TITO S.TIi1 S.TIi2 hTI)
    · exact (sb.2 _ S.TOz).trans TO'
    · exact src_keep (b1 _ _ s1') fun o q => (sb.2 _ (Ne.symm S.zi1)).trans q
    · exact src_keep (b2 _ _ s2') fun o q => (sb.2 _ (Ne.symm S.zi2)).trans q
    · have hlt : c < s.heap.objs.size := by
        have e' : c = N + 4 ∨ c = N + 2 ∨ c = N + 3 ∨ c = N ∨ c = N + 1 := by simpa using hcm
        exact lt5 e' hzl
      rw [upd_ne (Nat.ne_of_lt hlt)]
      exact (hf c hcm).1
  done := by
    intro X hP hw hK hc i pins s σ H E I hf st hg
    subst hP hw hK
    obtain ⟨hz, hTI, ⟨x0, y0, hTO⟩, j1, j2⟩ := st
    obtain ⟨q1, q2, l1, l2, hend⟩ := hg
    have n1 : N ∉ r1.ads := fun z => Nat.lt_irrefl _ (h1 _ z)
    have n2 : N + 1 ∉ r2.ads := fun z => Nat.lt_irrefl _ (Nat.lt_of_succ_lt (h2 _ z))
    obtain ⟨P1, St1, D1, a1, b1, c1⟩ := src_draws I (A := X.A.in1) (I.ok.hd hc) r1 q1 n1
    obtain ⟨P2, St2, D2, a2, b2, c2⟩ := src_draws I (A := X.A.in1) (I.ok.hd hc) r2 q2 n2
    have S := zip_sep2 (N := N) h1 h2
    exact wpAny_pyNext_zipD2_end S D1 D2 hz hTI hTO (a1 i j1) (a2 i j2) l1 l2 hend fun h' tk hk => ⟨rfl, I.turnedL (t' := tk) (ch := [N + 4, N + 2, N + 3, N, N + 1]) (fun c o hb q =>
      hk c o (fun q' => hb (by simp [q'])) (fun q' => hb (by simp [q'])) (fun q' => hb (by simp [q'])) (fun q' => hb (by simp [q'])) q) hf⟩
  self := fun A i s Q E st h => wpAny_pyIter_zip st.1 h
def Src.tok (t : Tok) : Src → Src
  | .str x _ => .str x t
  | r => r
theorem pi_zipS {X : Cx} {e e2 : Expr} {ta : TA} {p pos tpos : Pos} {elts : List Expr} {kk : Nat} (hg : Gl X "zip") (hm : X.mg "zip" = none) (ha : PA X [e, e2] ta)
    (hs : starEach [e, e2] X.env = (false, eval e X.env) :: starEach [e2] X.env) (hpl : (backTo pos (starEach [e2] X.env)).any (·.1) = false) :
    PI X (.Tuple elts kk tpos) (.Call (.Name "zip" p) [e, e2] [] pos) (fun σ H R => ta σ H fun vs H1 => ∃ r1 r2 : Src, vs = [r1.v, r2.v] ∧ r1.has X.K H1 ∧ r2.has X.K H1 ∧ ∀ t1 t2, R (ItzS X.K (r1.tok t1) (r2.tok t2)) H1) := by
  refine ⟨fun pins s σ H R I h => ?_⟩
  refine Call_ (ld_blt I hg hm PyProof.Rows.boot_zip (PyProof.Rows.callWith_type1 (thn (ha.run pos pins s σ H _ I h) fun us s1 ⟨vs, H1, I1, r1, q1⟩ => ?_) hs hpl))
  obtain ⟨ra, rb, ex, h1, h2, q⟩ := q1
  subst ex
  obtain ⟨u1, u2, rfl, rv1, rv2⟩ := vals2 r1
  obtain ⟨t1, e1, g1⟩ : ∃ t, u1 = (ra.tok t).val ∧ (ra.tok t).has X.K H1 := by
    cases ra with
    | lst a xs => cases rv1; exact ⟨0, rfl, h1⟩
    | tup a xs => cases rv1; exact ⟨0, rfl, h1⟩
    | str x t0 => obtain ⟨t, rfl⟩ := rv1; exact ⟨t, rfl, trivial⟩
  obtain ⟨t2, e2, g2⟩ : ∃ t, u2 = (rb.tok t).val ∧ (rb.tok t).has X.K H1 := by
    cases rb with
    | lst a xs => cases rv2; exact ⟨0, rfl, h2⟩
    | tup a xs => cases rv2; exact ⟨0, rfl, h2⟩
    | str x t0 => obtain ⟨t, rfl⟩ := rv2; exact ⟨t, rfl, trivial⟩
  subst e1 e2
  have qq := q t1 t2
  generalize ra.tok t1 = q1 at g1 qq ⊢
  generalize rb.tok t2 = q2 at g2 qq ⊢
  obtain ⟨o1, Hh1, B1, b1, c1⟩ := src_begins I1 q1 g1
  obtain ⟨o2, Hh2, B2, b2, c2⟩ := src_begins I1 q2 g2
  refine zip_begins2 B1 B2 b1 b2 fun h' hz hTI hTO e1 e2 hsz hk => wpAny_pyIter_zip hz ?_
  have I2 : Inv X pins σ H1 { s1 with heap := h' } := I1.kept (t' := s1.toks) hk
  refine ⟨s1.heap.objs.size + 4, _, _, _, H1, rfl, I2, turn_zipS (N := s1.heap.objs.size) (src_ads I1 q1 g1) (src_ads I1 q2 g2), ⟨hz, hTI, ⟨_, _, hTO⟩, c1 _ _ e1, c2 _ _ e2⟩, fun c hcm => ?_, qq⟩
  have e' : c = s1.heap.objs.size + 4 ∨ c = s1.heap.objs.size + 2 ∨ c = s1.heap.objs.size + 3 ∨ c = s1.heap.objs.size ∨ c = s1.heap.objs.size + 1 := by simpa using hcm
  have hle : s1.heap.objs.size ≤ c := le5 e'
  exact I1.fpOk hle (I1.hok.fresh hle)
end Ev
set_option Elab.async false
set_option linter.all false
set_option maxRecDepth 100000
set_option maxHeartbeats 1000000
/-! Ev12: what is wanted, the context, binding, walks. -/
namespace Ev
open PySem PySem.Spec PyProof.Rows L2

/-! ### readings as they are -/
def WE (X : Cx) (e : Expr) (σ : L2.St) (H : Hp) (Q : VK) : Prop := ∀ pins s, Inv X pins σ H s → wpAny (model X.prog X.w) X.A (eval e X.env) (EP X pins σ Q) X.xe s
def WT (X : Cx) (e : Expr) (σ : L2.St) (H : Hp) (Q : Bool → Hp → Prop) : Prop := ∀ pins s, Inv X pins σ H s → wpAny (model X.prog X.w) X.A (isTrue e X.env (eval e X.env)) (TP X pins σ Q) X.xe s
def WW (X : Cx) (e : Expr) (σ : L2.St) (H : Hp) (Q : Bool → Hp → Prop) : Prop := ∀ whole pins s, Inv X pins σ H s → wpAny (model X.prog X.w) X.A (isTrue e X.env whole) (TP X pins σ Q) X.xe s
def WA (X : Cx) (es : List Expr) (σ : L2.St) (H : Hp) (Q : List V → Hp → Prop) : Prop := ∀ pos pins s, Inv X pins σ H s → wpAny (model X.prog X.w) X.A (spliced (backTo pos (starEach es X.env))) (AP X pins σ Q) X.xe s
def WG (X : Cx) (tg : Expr) (v : V) (σ : L2.St) (H : Hp) (Q : L2.St → Hp → Prop) : Prop := ∀ pins s u, Inv X pins σ H s → RelV v u → wpAny (model X.prog X.w) X.A (assign tg X.env u) (fun _ s' => ∃ σ' H', Inv X pins σ' H' s' ∧ Q σ' H') X.xe s
def WGs (X : Cx) (ts : List Expr) (vs : List V) (σ : L2.St) (H : Hp) (Q : L2.St → Hp → Prop) : Prop := ∀ pins s us, Inv X pins σ H s → Vals vs us → wpAny (model X.prog X.w) X.A (assignInOrder ((assignEach ts X.env).map (·.2)) us) (fun _ s' => ∃ σ' H', Inv X pins σ' H' s' ∧ Q σ' H') X.xe s
def WP (X : Cx) (e : Option Expr) (σ : L2.St) (H : Hp) (Q : Option Int → Hp → Prop) : Prop := ∀ pins s, Inv X pins σ H s → wpAny (model X.prog X.w) X.A (evalPart e X.env) (fun u s' => ∃ o H', Inv X pins σ H' s' ∧ IsPart u o ∧ Q o H') X.xe s
def WIt (X : Cx) (tg it : Expr) (σ : L2.St) (H : Hp) (R : It → Hp → Prop) : Prop := ∀ pins s, Inv X pins σ H s → wpAny (model X.prog X.w) X.A (eval it X.env) (fun v s1 => wpAny (model X.prog X.w) X.A (pyIter v) (PIE X pins σ tg R) X.xe s1) X.xe s
section
variable {X : Cx} {e : Expr} {σ : L2.St} {H : Hp} {tg it : Expr} {es ts : List Expr}
theorem pe_we (e : Expr) : PE X e (WE X e) := ⟨fun pins s σ H Q I h => h pins s I⟩
theorem pt_wt (e : Expr) : PT X e (WT X e) := ⟨fun pins s σ H Q I h => h pins s I⟩
theorem pw_ww (e : Expr) : PW X e (WW X e) := ⟨fun wh pins s σ H Q I h => h wh pins s I⟩
theorem pa_wa (es : List Expr) : PA X es (WA X es) := ⟨fun pos pins s σ H Q I h => h pos pins s I⟩
theorem pg_wg (tg : Expr) : PG X tg (WG X tg) := ⟨fun pins s σ H v u Q I r h => h pins s u I r⟩
theorem pgs_wgs (ts : List Expr) : PGs X ts (WGs X ts) := ⟨fun pins s σ H vs us Q I r h => h pins s us I r⟩
theorem po_wp (e : Option Expr) : PO X e (WP X e) := ⟨fun pins s σ H Q I h => h pins s I⟩
theorem pi_wi (tg it : Expr) : PI X tg it (WIt X tg it) := ⟨fun pins s σ H R I h => h pins s I⟩
theorem WE.of {t : TE} {Q : VK} (h : PE X e t) (q : t σ H Q) : WE X e σ H Q := fun pins s I => h.run pins s σ H Q I q
theorem WT.of {t : TT} {Q : Bool → Hp → Prop} (h : PT X e t) (q : t σ H Q) : WT X e σ H Q := fun pins s I => h.run pins s σ H Q I q
theorem WW.of {t : TT} {Q : Bool → Hp → Prop} (h : PW X e t) (q : t σ H Q) : WW X e σ H Q := fun wh pins s I => h.run wh pins s σ H Q I q
theorem WW.wt {Q : Bool → Hp → Prop} (q : WW X e σ H Q) : WT X e σ H Q := fun pins s I => q _ pins s I
theorem WA.of {t : TA} {Q : List V → Hp → Prop} (h : PA X es t) (q : t σ H Q) : WA X es σ H Q := fun pos pins s I => h.run pos pins s σ H Q I q
theorem WG.of {t : TG} {v : V} {Q : L2.St → Hp → Prop} (h : PG X tg t) (q : t v σ H Q) : WG X tg v σ H Q := fun pins s u I r => h.run pins s σ H v u Q I r q
theorem WGs.of {t : TGs} {vs : List V} {Q : L2.St → Hp → Prop} (h : PGs X ts t) (q : t vs σ H Q) : WGs X ts vs σ H Q := fun pins s us I r => h.run pins s σ H vs us Q I r q
theorem WP.of {o : Option Expr} {t : TO} {Q : Option Int → Hp → Prop} (h : PO X o t) (q : t σ H Q) : WP X o σ H Q := fun pins s I => h.run pins s σ H Q I q
theorem WIt.of {t : TI} {Q : It → Hp → Prop} (h : PI X tg it t) (q : t σ H Q) : WIt X tg it σ H Q := fun pins s I => h.run pins s σ H Q I q
theorem WE.mono {Q Q' : VK} (q : WE X e σ H Q) (h : ∀ v H', Q v H' → Q' v H') : WE X e σ H Q' := fun pins s I => thn (q pins s I) fun u s' ⟨v, H', I', r, q⟩ => ⟨v, H', I', r, h v H' q⟩
end

/-! ### what is wanted of a result -/
def atS : Str := "at"
def Exq (X : Cx) (W : WX) (σ : L2.St) (R : RE) (H : Hp) (c : Str) (a : D) : Prop :=
  ∀ C, X.mg c = some (.ref C) → ∀ R' H' dd v, Post R H R' H' → Rep R' 0 a v → H' dd = some (.xd [(atS, v)]) → W (.ref C) (some dd) σ H'
def Fin {α β : Type} (rel : RE → α → β → Prop) (X : Cx) (W : WX) (σ : L2.St) (R : RE) (H : Hp) (r : Ev.R α) (Q : β → Hp → Prop) : Prop :=
  match r with
  | .ok a => ∀ b R' H', Post R H R' H' → rel R' a b → Q b H'
  | .exc c a => Exq X W σ R H c a
  | .fail => False
def rV (R : RE) (d : DL) (v : V) : Prop := Rep R d.2 d.1 v
def rVs (R : RE) (ds : List DL) (vs : List V) : Prop := Paired (rV R) ds vs
def rEq {α : Type} (_ : RE) (a b : α) : Prop := b = a
section
variable {X : Cx} {W : WX} {σ : L2.St} {R R1 : RE} {H H1 : Hp}
theorem Exq.after {c : Str} {a : D} (h : Exq X W σ R H c a) (p : Post R H R1 H1) : Exq X W σ R1 H1 c a := fun C m R' H' dd v p' r e => h C m R' H' dd v (p.trans p') r e
theorem Fin.after {α β : Type} {rel : RE → α → β → Prop} {r : Ev.R α} {Q : β → Hp → Prop} (h : Fin rel X W σ R H r Q) (p : Post R H R1 H1) : Fin rel X W σ R1 H1 r Q := by
  cases r with
  | ok a => exact fun b R' H' p' r => h b R' H' (p.trans p') r
  | exc c a => exact Exq.after h p
  | fail => exact h
theorem Fin.step {α β γ δ : Type} {rel : RE → α → β → Prop} {rel' : RE → γ → δ → Prop} {r : Ev.R α} {f : α → Ev.R γ} {Q : δ → Hp → Prop} {Q' : β → Hp → Prop} (h : Fin rel' X W σ R H (r >>= f) Q)
    (k : ∀ a b R1 H1, r = .ok a → Post R H R1 H1 → rel R1 a b → Fin rel' X W σ R1 H1 (f a) Q → Q' b H1) : Fin rel X W σ R H r Q' := by
  cases r with
  | ok a => exact fun b R1 H1 p q => k a b R1 H1 rfl p q (Fin.after (r := f a) h p)
  | exc c a => exact h
  | fail => exact h.elim
theorem Fin.ok {α β : Type} {rel : RE → α → β → Prop} {a : α} {Q : β → Hp → Prop} (h : Fin rel X W σ R H (.ok a) Q) {b : β} (x : RIn R H) (q : rel R a b) : Q b H := h b R H (.refl x) q
theorem Fin.good {d : DL} {Q : VK} (h : Fin rV X W σ R H (.ok d) Q) : Good R H d Q := fun v R' H' p r => h v R' H' p r
/-- results that are no exceptions -/
theorem Fin.no {α β : Type} {rel : RE → α → β → Prop} {r : Ev.R α} {Q : β → Hp → Prop} (h : Fin rel X W σ R H r Q) (n : ∀ c a, r ≠ .exc c a) : ∃ a, r = .ok a ∧ Fin rel X W σ R H (.ok a) Q := by
  cases r with
  | ok a => exact ⟨a, rfl, h⟩
  | exc c a => exact absurd rfl (n c a)
  | fail => exact h.elim
end
theorem bin_nox (o : Operator) (x y : DL) : ∀ c a, evBin o x y ≠ .exc c a := by
  intro c a
  unfold evBin
  split <;> first | (intro h; cases h; done) | (split <;> intro h <;> cases h)
theorem isIn_nox (x y : D) : ∀ c a, evCmp.isIn x y ≠ .exc c a := by
  intro c a
  unfold evCmp.isIn
  split <;> first | (intro h; cases h; done) | (split <;> intro h <;> cases h)
theorem cmp_nox (o : CmpOp) (x y : DL) : ∀ c a, evCmp o x y ≠ .exc c a := by
  intro c a
  unfold evCmp
  split <;> first | (intro h; cases h; done) | exact isIn_nox _ _ c a | (split <;> first | (intro h; cases h; done) | (split <;> intro h <;> cases h))
theorem idx_nox (x y : DL) : ∀ c a, evIdx x y ≠ .exc c a := by
  intro c a
  unfold evIdx
  split <;> first | (intro h; cases h; done) | (split <;> first | (intro h; cases h; done) | (split <;> intro h <;> cases h))
theorem slc_nox (x : DL) (l h : Option Int) : ∀ c a, evSlc x l h ≠ .exc c a := by
  intro c a
  unfold evSlc
  split <;> first | (intro h; cases h; done) | (split <;> intro h <;> cases h)
theorem neg_nox (x : DL) : ∀ c a, evNeg x ≠ .exc c a := by
  intro c a
  unfold evNeg
  split <;> intro h <;> cases h
theorem tru_nox (x : DL) : ∀ c a, truD x ≠ .exc c a := by
  intro c a
  unfold truD
  split <;> intro h <;> cases h
theorem items_nox (x : DL) : ∀ c a, itemsOf x ≠ .exc c a := by
  intro c a
  unfold itemsOf
  split <;> intro h <;> cases h
theorem blt_nox (b : Blt) (xs : List DL) : ∀ c a, evBlt b xs ≠ .exc c a := by
  intro c a
  unfold evBlt
  split <;> first | (intro h; cases h; done) | (split <;> first | (intro h; cases h; done) | (split <;> intro h <;> cases h))
theorem mth_nox (b : Mth) (x : DL) (xs : List DL) : ∀ c a, evMth b x xs ≠ .exc c a := by
  intro c a
  unfold evMth
  split <;> first | (intro h; cases h; done) | (split <;> first | (intro h; cases h; done) | (split <;> first | (intro h; cases h; done) | (split <;> intro h <;> cases h)))

/-! ### slots -/
/-- the slots bear what the environment tells -/
structure Rel (R : RE) (ρ : Env) (σ : L2.St) : Prop where
  len : ρ.length = σ.length
  at_ : ∀ (i : Nat) (t : T), ρ[i]? = some (some t) → ∃ v, σ[i]? = some (some v) ∧ Rep R t.lvl t.toD v
theorem Rel.ext {R R' : RE} {ρ : Env} {σ : L2.St} (h : Rel R ρ σ) (x : REx R R') : Rel R' ρ σ := ⟨h.len, fun i t e => let ⟨v, e1, e2⟩ := h.at_ i t e; ⟨v, e1, e2.ext x⟩⟩
theorem Rel.set {R : RE} {ρ : Env} {σ : L2.St} (h : Rel R ρ σ) {i : Nat} {t : T} {v : V} (r : Rep R t.lvl t.toD v) : Rel R (ρ.set i (some t)) (σ.set i (some v)) := by
  refine ⟨by rw [List.length_set, List.length_set]; exact h.len, fun j u e => ?_⟩
  by_cases hj : i = j
  · subst hj
    by_cases hl : i < ρ.length
    · rw [List.getElem?_set_self hl] at e
      cases e
      exact ⟨v, by rw [List.getElem?_set_self (by rw [← h.len]; exact hl)], r⟩
    · rw [List.getElem?_eq_none (by rw [List.length_set]; omega)] at e
      cases e
  · rw [List.getElem?_set_ne hj] at e ⊢
    exact h.at_ j u e
theorem Rel.drop {R : RE} {ρ : Env} {σ : L2.St} (h : Rel R ρ σ) (i : Nat) : Rel R (ρ.set i none) (σ.set i none) := by
  refine ⟨by rw [List.length_set, List.length_set]; exact h.len, fun j u e => ?_⟩
  by_cases hj : i = j
  · subst hj
    by_cases hl : i < ρ.length
    · rw [List.getElem?_set_self hl] at e
      cases e
    · rw [List.getElem?_eq_none (by rw [List.length_set]; omega)] at e
      cases e
  · rw [List.getElem?_set_ne hj] at e ⊢
    exact h.at_ j u e
theorem Rel.wipe {R : RE} {ρ : Env} {σ : L2.St} (h : Rel R ρ σ) : ∀ vs : List Nat, Rel R (wipeE ρ vs) (L2.wipe σ vs)
  | [] => h
  | v :: vs => (Rel.wipe h vs).drop v
theorem wipe_set {σ : L2.St} {i : Nat} {x : Option V} : ∀ {vs : List Nat}, i ∈ vs → L2.wipe (σ.set i x) vs = L2.wipe σ vs
  | [], h => by cases h
  | v :: vs, h => by
    show (L2.wipe (σ.set i x) vs).set v none = (L2.wipe σ vs).set v none
    by_cases hi : i ∈ vs
    · rw [wipe_set hi]
    · have e : v = i := by
        rcases List.mem_cons.mp h with e | e
        · exact e.symm
        · exact absurd e hi
      subst e
      have q : ∀ ws : List Nat, v ∉ ws → L2.wipe (σ.set v x) ws = (L2.wipe σ ws).set v x := by
        intro ws
        induction ws with
        | nil => intro _; rfl
        | cons w ws ih =>
          intro hw
          simp only [List.mem_cons, not_or] at hw
          show (L2.wipe (σ.set v x) ws).set w none = ((L2.wipe σ ws).set w none).set v x
          rw [ih hw.2, List.set_comm _ _ hw.1]
      rw [q vs hi, List.set_set]
theorem wipe_wipe {σ : L2.St} : ∀ (vs ws : List Nat), (∀ v ∈ vs, v ∈ ws) → L2.wipe (L2.wipe σ vs) ws = L2.wipe σ ws
  | [], ws, _ => rfl
  | v :: vs, ws, h => by
    show L2.wipe ((L2.wipe σ vs).set v none) ws = _
    rw [wipe_set (h v List.mem_cons_self)]
    exact wipe_wipe vs ws fun u hu => h u (List.mem_cons_of_mem _ hu)

/-! ### the context -/
/-- a def of a law: what it makes of data -/
def spD (K : PySem.W.Frag) (w : World) (mg : Str → Option Value) (g : List D → R D) : Sp := fun vs H Q E =>
  ∃ R ds, R.K = K ∧ R.w = w ∧ RIn R H ∧ Reps R 0 ds vs ∧ match g ds with
    | .ok d => Good R H (d, 0) Q
    | .exc c a => ∀ C, mg c = some (.ref C) → ∀ R' H' dd v, Post R H R' H' → Rep R' 0 a v → H' dd = some (.xd [(atS, v)]) → E (.ref C) (some dd) H'
    | .fail => False
structure Kn (X : Cx) (C : Nat → D) (Γ : Fns) (cn fn : Nat → Str) : Prop where
  calm : X.calm = true
  room : ∃ k, Room k X.A ∧ ∀ n, ∃ f, X.mg (fn n) = some (.ref f) ∧ PySem.W.keepIn X.K (.ref f) = true ∧ FnR X.prog X.w X.K X.mg X.base (CX X.prog X.w) k f (spD X.K X.w X.mg (Γ n))
  nd : X.N.Nodup
  blt : ∀ b : Blt, X.mg b.nm = none
  rng : X.mg "range" = none
  enu : X.mg "enumerate" = none
  zip : X.mg "zip" = none
  cst : ∀ n, ∃ u v, X.mg (cn n) = some u ∧ RelV v u ∧ (∀ a, v = .ref a → ∃ o, X.K.lookup a = some o ∧ o.dict = none) ∧ ∀ R : RE, R.K = X.K → R.w = X.w → Rep R 0 (C n) v
structure Cd (X : Cx) (W : WX) (C : Nat → D) (Γ : Fns) (cn fn : Nat → Str) (σ : L2.St) (R : RE) (H : Hp) (ρ : Env) : Prop where
  kn : Kn X C Γ cn fn
  tk : Takes X W
  rel : Rel R ρ σ
  rin : RIn R H
  eK : R.K = X.K
  ew : R.w = X.w
section
variable {X : Cx} {W : WX} {C : Nat → D} {Γ : Fns} {cn fn : Nat → Str} {σ : L2.St} {R R1 : RE} {H H1 : Hp} {ρ : Env}
theorem Cd.after (h : Cd X W C Γ cn fn σ R H ρ) (p : Post R H R1 H1) : Cd X W C Γ cn fn σ R1 H1 ρ := ⟨h.kn, h.tk, h.rel.ext p.ex, p.rin, p.ex.K.trans h.eK, p.ex.w.trans h.ew⟩
theorem Cd.un (h : Cd X W C Γ cn fn σ R H ρ) : X.A.units + 64 < cLine := let ⟨_, r, _⟩ := h.kn.room; r.units
theorem Kn.blk (h : Kn X C Γ cn fn) (s : Shared) (H : Hp) (scope : Scope) (cenv : PySem.Env) (fp : List Addr) : Kn (X.blk s H scope cenv fp) C Γ cn fn :=
  ⟨h.calm, h.room, h.nd, h.blt, h.rng, h.enu, h.zip, h.cst⟩
theorem takes_none (X : Cx) : Takes X (fun _ _ _ _ => False) := fun u s' ⟨_, _, _, _, _, _, _, _, _, _, _, _, _, _, _, _, w⟩ => w.elim
end

/-! ### walks -/
/-- J yields xs -/
structure Wk (R : RE) (J : It) (xs : List DL) : Prop where
  go : ∀ i H, i < xs.length → RIn R H → J.go i H
  stop : ∀ H, RIn R H → J.stop xs.length H
  yld : ∀ i d H v H', xs[i]? = some d → RIn R H → J.yld i H v H' → ∀ R1, REx R R1 → RIn R1 H → ∃ R2, Post R1 H R2 H' ∧ rV R2 d v
theorem RIn.less {R R1 : RE} {H : Hp} (x : RIn R1 H) (e : REx R R1) (i : R.In) : RIn R H :=
  ⟨i, fun a u h => x.sub a u (e.G a u h), fun a ns h => by rw [← e.K]; exact x.scr a ns (e.S a ns h)⟩
theorem Wk.ext {R R1 : RE} {J : It} {xs : List DL} (h : Wk R J xs) (e : REx R R1) (i : R.In) : Wk R1 J xs :=
  ⟨fun j H l x => h.go j H l (x.less e i), fun H x => h.stop H (x.less e i), fun j d H v H' q x y R2 e2 x2 => h.yld j d H v H' q (x.less e i) y R2 (e.trans e2) x2⟩
theorem get_map {α β : Type} {f : α → β} {xs : List α} {i : Nat} {y : β} (h : (xs.map f)[i]? = some y) : ∃ x, xs[i]? = some x ∧ y = f x := by
  rw [List.getElem?_map] at h
  obtain ⟨x, e, q⟩ := Option.map_eq_some_iff.mp h
  exact ⟨x, e, q.symm⟩
section
variable {R : RE} {K : PySem.W.Frag}
theorem sql_at {H : Hp} {k : Nat} {a : Addr} {vs : List V} (x : RIn R H) (eK : R.K = K) (h : LsAt (R.hp k) a vs) : SqL K H a vs := eK ▸ x.lst h
theorem wk_list (eK : R.K = K) {k : Nat} {a : Addr} {ds : List D} {vs : List V} (h : LsAt (R.hp k) a vs) (r : Reps R (pr k) ds vs) : Wk R (Itl K a) (ds.map fun d => (d, lvlOf d (pr k))) where
  go := fun i H l x => by
    rw [List.length_map, r.length] at l
    exact ⟨vs, vs[i], sql_at x eK h, List.getElem?_eq_getElem l⟩
  stop := fun H x => ⟨vs, sql_at x eK h, by rw [List.length_map, r.length]; exact Nat.le_refl _⟩
  yld := fun i d H v H' q x y R1 e x1 => by
    obtain ⟨rfl, y⟩ := y
    obtain ⟨d0, q0, rfl⟩ := get_map q
    obtain ⟨w, e1, e2⟩ := r.get q0
    have := y vs (sql_at x eK h)
    rw [e1] at this; cases this
    exact ⟨R1, .refl x1, (scal_rep e2).ext e⟩
theorem wk_tup (eK : R.K = K) {k : Nat} {a : Addr} {ds : List D} {vs : List V} (h : TuAt R.K (R.hp k) a ds vs) (r : Reps R (pr k) ds vs) : Wk R (Itt K a) (ds.map fun d => (d, lvlOf d (pr k))) where
  go := fun i H l x => by
    rw [List.length_map, r.length] at l
    exact ⟨vs, vs[i], eK ▸ x.tup h, List.getElem?_eq_getElem l⟩
  stop := fun H x => ⟨vs, eK ▸ x.tup h, by rw [List.length_map, r.length]; exact Nat.le_refl _⟩
  yld := fun i d H v H' q x y R1 e x1 => by
    obtain ⟨rfl, y⟩ := y
    obtain ⟨d0, q0, rfl⟩ := get_map q
    obtain ⟨w, e1, e2⟩ := r.get q0
    have := y vs (eK ▸ x.tup h)
    rw [e1] at this; cases this
    exact ⟨R1, .refl x1, (scal_rep e2).ext e⟩
theorem wk_str (z : Str) : Wk R (Its z) (z.cps.toList.map fun c => (D.str ⟨#[c]⟩, 0)) where
  go := fun i H l x => by
    rw [List.length_map, Array.length_toList] at l
    exact l
  stop := fun H x => by
    show z.cps.size ≤ _
    rw [List.length_map, Array.length_toList]
    exact Nat.le_refl _
  yld := fun i d H v H' q x y R1 e x1 => by
    obtain ⟨rfl, c, hc, rfl⟩ := y
    obtain ⟨d0, q0, rfl⟩ := get_map q
    have q0 : z.cps[i]? = some d0 := by simpa using q0
    rw [hc] at q0; cases q0
    exact ⟨R1, .refl x1, rfl⟩
theorem wk_rng (lo : Int) (n : Nat) : Wk R (Itr lo n) (rangeI lo n) where
  go := fun i H l x => by
    show i < n
    simpa [rangeI] using l
  stop := fun H x => by
    show n ≤ _
    simp [rangeI]
  yld := fun i d H v H' q x y R1 e x1 => by
    obtain ⟨rfl, rfl⟩ := y
    unfold rangeI at q
    obtain ⟨j, q0, rfl⟩ := get_map q
    obtain ⟨hj, ej⟩ := List.getElem?_eq_some_iff.mp q0
    have ej : i = j := by simpa using ej
    subst ej
    exact ⟨R1, .refl x1, rfl⟩
/-- a new pair -/
theorem pair_new {R : RE} {H : Hp} (x : RIn R H) {T : Addr} {a b : DL} {v u : V} (n : H T = none) (h1 : rV R a v) (h2 : rV R b u) :
    ∃ R2, Post R H R2 (upd H T (.tup [v, u])) ∧ Rep R2 (upL (max a.2 b.2)) (.tup [a.1, b.1]) (.ref T) := by
  refine ⟨_, .new x (upL (max a.2 b.2)) n, Rep.newT x n ?_⟩
  exact ⟨v, [u], rfl, (Rep.up x.inn _ _ _ _ (Nat.le_trans (Nat.le_max_left _ _) (le_pr_upL _)) h1), u, [], rfl, (Rep.up x.inn _ _ _ _ (Nat.le_trans (Nat.le_max_right _ _) (le_pr_upL _)) h2), rfl⟩
theorem enumI_get : ∀ {xs : List DL} {k i : Nat}, (enumI k xs)[i]? = (xs[i]?).map fun x => (D.tup [.int ((k + i : Nat) : Int), x.1], upL x.2)
  | [], k, i => by simp [enumI]
  | x :: xs, k, 0 => by simp [enumI]
  | x :: xs, k, i + 1 => by
    have := enumI_get (xs := xs) (k := k + 1) (i := i)
    simp only [enumI, List.getElem?_cons_succ]
    rw [this, show k + 1 + i = k + (i + 1) by omega]
theorem enumI_len : ∀ (xs : List DL) (k : Nat), (enumI k xs).length = xs.length
  | [], _ => rfl
  | x :: xs, k => by simp [enumI, enumI_len xs]
theorem zipI_get : ∀ {xs ys : List DL} {i : Nat}, (zipI xs ys)[i]? = match xs[i]?, ys[i]? with | some x, some y => some (D.tup [x.1, y.1], upL (max x.2 y.2)) | _, _ => none
  | [], ys, i => by simp [zipI]
  | x :: xs, [], i => by
    simp only [zipI]
    cases i with
    | zero => simp
    | succ i =>
      simp only [List.getElem?_nil, List.getElem?_cons_succ]
      cases xs[i]? <;> rfl
  | x :: xs, y :: ys, 0 => by simp [zipI]
  | x :: xs, y :: ys, i + 1 => by
    simp only [zipI, List.getElem?_cons_succ]
    exact zipI_get
theorem zipI_len : ∀ (xs ys : List DL), (zipI xs ys).length = min xs.length ys.length
  | [], ys => by simp [zipI]
  | x :: xs, [] => by simp [zipI]
  | x :: xs, y :: ys => by simp [zipI, zipI_len xs ys, Nat.succ_min_succ]
theorem wk_enum (eK : R.K = K) {k : Nat} {a : Addr} {ds : List D} {vs : List V} (h : LsAt (R.hp k) a vs) (r : Reps R (pr k) ds vs) : Wk R (Ite K a) (enumI 0 (ds.map fun d => (d, lvlOf d (pr k)))) where
  go := fun i H l x => by
    rw [enumI_len, List.length_map, r.length] at l
    exact ⟨vs, vs[i], sql_at x eK h, List.getElem?_eq_getElem l⟩
  stop := fun H x => ⟨vs, sql_at x eK h, by rw [enumI_len, List.length_map, r.length]; exact Nat.le_refl _⟩
  yld := fun i d H v H' q x y R1 e x1 => by
    obtain ⟨T, w, rfl, n, rfl, y⟩ := y
    rw [enumI_get] at q
    obtain ⟨x0, q0, rfl⟩ := Option.map_eq_some_iff.mp q
    obtain ⟨d0, q1, rfl⟩ := get_map q0
    obtain ⟨w', e1, e2⟩ := r.get q1
    have := y vs (sql_at x eK h)
    rw [e1] at this; cases this
    obtain ⟨R2, p, q2⟩ := pair_new x1 (a := (.int (i : Nat), 0)) (b := (d0, lvlOf d0 (pr k))) n (show Rep R1 0 (.int (i : Nat)) (.int (i : Nat)) from rfl) ((scal_rep e2).ext e)
    refine ⟨R2, p, ?_⟩
    simp only [Nat.zero_add] at q2 ⊢
    rw [Nat.zero_max] at q2
    exact q2
/-- a source that is known -/
def SrcOk (R : RE) (k : Nat) (d : D) (r : Src) : Prop :=
  match r with
  | .lst a vs => ∃ ds, d = .lst ds ∧ LsAt (R.hp k) a vs ∧ Reps R (pr k) ds vs
  | .tup a vs => ∃ ds, d = .tup ds ∧ TuAt R.K (R.hp k) a ds vs ∧ Reps R (pr k) ds vs
  | .str z _ => d = .str z
theorem SrcOk.has {R : RE} {H : Hp} {k : Nat} {d : D} {r : Src} (x : RIn R H) (eK : R.K = K) (h : SrcOk R k d r) : r.has K H := by
  cases r with
  | lst a vs => obtain ⟨ds, _, h1, _⟩ := h; exact sql_at x eK h1
  | tup a vs => obtain ⟨ds, _, h1, _⟩ := h; exact eK ▸ x.tup h1
  | str z t => trivial
theorem SrcOk.tok {R : RE} {k : Nat} {d : D} {r : Src} (h : SrcOk R k d r) (t : Tok) : SrcOk R k d (r.tok t) := by
  cases r <;> exact h
theorem src_len {R : RE} {k : Nat} {d : D} {r : Src} {xs : List DL} (h : SrcOk R k d r) (e : itemsOf (d, k) = .ok xs) : r.vals.length = xs.length := by
  cases r with
  | lst a vs => obtain ⟨ds, rfl, _, h2⟩ := h; cases e; rw [List.length_map]; exact h2.length.symm
  | tup a vs => obtain ⟨ds, rfl, _, h2⟩ := h; cases e; rw [List.length_map]; exact h2.length.symm
  | str z t => cases (show d = .str z from h); cases e; simp [Src.vals]
theorem src_get {R : RE} {k : Nat} {d : D} {r : Src} {xs : List DL} (h : SrcOk R k d r) (e : itemsOf (d, k) = .ok xs) {i : Nat} {x : DL} {v : V} (q : xs[i]? = some x) (w : r.vals[i]? = some v) : rV R x v := by
  cases r with
  | lst a vs =>
    obtain ⟨ds, rfl, _, h2⟩ := h
    cases e
    obtain ⟨d0, q0, rfl⟩ := get_map q
    obtain ⟨u, e1, e2⟩ := h2.get q0
    have : vs[i]? = some v := w
    rw [e1] at this; cases this
    exact scal_rep e2
  | tup a vs =>
    obtain ⟨ds, rfl, _, h2⟩ := h
    cases e
    obtain ⟨d0, q0, rfl⟩ := get_map q
    obtain ⟨u, e1, e2⟩ := h2.get q0
    have : vs[i]? = some v := w
    rw [e1] at this; cases this
    exact scal_rep e2
  | str z t =>
    cases (show d = .str z from h)
    cases e
    obtain ⟨d0, q0, rfl⟩ := get_map q
    obtain ⟨d1, q1, rfl⟩ := get_map (show (z.cps.toList.map fun c => V.str ⟨#[c]⟩)[i]? = some v from w)
    rw [q0] at q1; cases q1
    exact rfl
theorem src_of {R : RE} {H : Hp} {k : Nat} {d : D} {v : V} {xs : List DL} (e : itemsOf (d, k) = .ok xs) (h : Rep R k d v) : ∃ r : Src, v = r.v ∧ SrcOk R k d r := by
  unfold itemsOf at e
  split at e
  · rename_i q; cases q
    obtain ⟨a, vs, rfl, h1, h2⟩ := h
    exact ⟨.lst a vs, rfl, _, rfl, h1, h2⟩
  · rename_i q; cases q
    obtain ⟨a, vs, rfl, h1, h2⟩ := h
    exact ⟨.tup a vs, rfl, _, rfl, h1, h2⟩
  · rename_i q; cases q
    cases h
    exact ⟨.str _ 0, rfl, rfl⟩
  · cases e
theorem wk_zip (eK : R.K = K) {j k : Nat} {d d' : D} {r r' : Src} {xs ys : List DL} (h : SrcOk R j d r) (h' : SrcOk R k d' r') (e : itemsOf (d, j) = .ok xs) (e' : itemsOf (d', k) = .ok ys) : Wk R (ItzS K r r') (zipI xs ys) where
  go := fun i H l x => by
    rw [zipI_len, Nat.lt_min] at l
    exact ⟨h.has x eK, h'.has x eK, by rw [src_len h e]; exact l.1, by rw [src_len h' e']; exact l.2⟩
  stop := fun H x => by
    refine ⟨h.has x eK, h'.has x eK, ?_⟩
    rw [zipI_len, src_len h e, src_len h' e']
    omega
  yld := fun i dd H v H' q x y R1 ee x1 => by
    obtain ⟨T, u, w, rfl, n, rfl, q1, q2⟩ := y
    rw [zipI_get] at q
    split at q
    · rename_i a b qa qb
      cases q
      exact pair_new x1 n ((src_get h e qa q1).ext ee) ((src_get h' e' qb q2).ext ee)
    · cases q
end
end Ev
set_option Elab.async false
set_option linter.all false
set_option maxRecDepth 100000
set_option maxHeartbeats 1000000
/-! Ev13: what is seen of a text; bindings; calls. -/
namespace Ev
open PySem PySem.Spec PyProof.Rows L2

def visB (sc : Scope) (x : Str) : Bool := match sc.names.lookup x with
  | some .local => true
  | some .cell => true
  | some .free => true
  | _ => false
def locB (sc : Scope) (fb : Str → Bool) (x : Str) : Bool := match sc.names.lookup x with
  | some .local => true
  | some .cell => fb x
  | _ => false
def glB (sc : Scope) (x : Str) : Bool := (match sc.names.lookup x with
  | some .globalImplicit => true
  | _ => false) && !(x == "__debug__")
def Mth.nm : Mth → Str
  | .get => "get"
  | .index => "index"
  | .count => "count"
  | .join => "join"
  | .split => "split"
  | .replace => "replace"
  | .isdigit => "isdigit"
def E.isIfe : E → Bool
  | .ife _ _ _ _ => true
  | _ => false
def E.noCall0 : E → Bool
  | .call _ _ [] _ _ => false
  | .blt _ _ [] _ _ => false
  | _ => true
def I.needsTp : I → Bool
  | .enu _ _ _ => true
  | .zip _ _ _ _ => true
  | _ => false
def Tg.isTp : Tg → Bool
  | .tp _ _ _ => true
  | _ => false
mutual
def Tg.chk (N : List Str) (sc : Scope) (fb : Str → Bool) (own : List Nat) : Tg → Bool
  | .nm i x _ => decide (N[i]? = some x) && locB sc fb x && own.contains i
  | .tp ts _ _ => Tg.chks N sc fb own ts
def Tg.chks (N : List Str) (sc : Scope) (fb : Str → Bool) (own : List Nat) : List Tg → Bool
  | [] => true
  | t :: ts => t.chk N sc fb own && Tg.chks N sc fb own ts
end
section
variable (cn fn : Nat → Str)
mutual
def E.chk (N : List Str) (sc : Scope) (fb : Str → Bool) : E → Bool
  | .var i x _ => decide (N[i]? = some x) && visB sc x && !(x == "__debug__") && !(x == "__classdict__")
  | .cst n x _ => glB sc x && decide (x = cn n)
  | .int _ _ _ => true
  | .bl _ _ _ => true
  | .non _ _ => true
  | .str _ _ _ => true
  | .bin _ a b _ => a.chk N sc fb && b.chk N sc fb
  | .neg a _ => a.chk N sc fb
  | .not a _ => a.chk N sc fb && !a.isIfe
  | .cmp _ a b _ => a.chk N sc fb && b.chk N sc fb
  | .chn _ _ a b c _ => a.chk N sc fb && b.chk N sc fb && c.chk N sc fb
  | .and es _ => E.chkT N sc fb es
  | .or es _ => E.chkT N sc fb es
  | .ife c a b _ => c.chk N sc fb && !c.isIfe && a.chk N sc fb && b.chk N sc fb
  | .tup as _ _ => E.chka N sc fb as
  | .lst as _ => E.chka N sc fb as
  | .dic kvs _ => E.chkk N sc fb kvs && !kvs.isEmpty && decide (kvs.length ≤ 15)
  | .dic0 _ _ => true
  | .sub a i _ => a.chk N sc fb && i.chk N sc fb
  | .slc a lo hi _ _ => a.chk N sc fb && E.chko N sc fb lo && E.chko N sc fb hi
  | .rev a _ _ _ _ _ => a.chk N sc fb
  | .call n x as _ _ => glB sc x && decide (x = fn n) && E.chks N sc fb as
  | .blt b x as _ _ => glB sc x && decide (x = b.nm) && E.chks N sc fb as && !as.isEmpty && decide (b ≠ .isTup)
  | .isT a _ _ _ => glB sc "isinstance" && glB sc "tuple" && a.chk N sc fb
  | .cix n x a _ p1 p => glB sc x && decide (x = cn n) && a.chk N sc fb && (p1.endLine == p.line)
  | .mth m x o as p1 p => decide (x = m.nm) && o.chk N sc fb && o.noCall0 && E.chks N sc fb as && !as.isEmpty && decide (as.length < 20) && (p1.endLine == p.line)
  | .lsI _ _ _ _ => false
  | .lc elt tg it ifs scope own _ => decide (ifs.length ≤ 1) && (!it.needsTp || tg.isTp) && blkC N sc scope own && I.chk N sc fb it && tg.chk N (relS scope sc) (fun x => scope.names.lookup x == some .cell) (own.map (·.2)) &&
      E.chkT N (relS scope sc) (fun x => scope.names.lookup x == some .cell) ifs && elt.chk N (relS scope sc) (fun x => scope.names.lookup x == some .cell)
  | .dc _ _ _ _ _ _ _ _ _ => false
def E.chks (N : List Str) (sc : Scope) (fb : Str → Bool) : List E → Bool
  | [] => true
  | e :: es => e.chk N sc fb && E.chks N sc fb es
def E.chkT (N : List Str) (sc : Scope) (fb : Str → Bool) : List E → Bool
  | [] => true
  | e :: es => e.chk N sc fb && !e.isIfe && E.chkT N sc fb es
def E.chka (N : List Str) (sc : Scope) (fb : Str → Bool) : List (Option Pos × E) → Bool
  | [] => true
  | (_, e) :: es => e.chk N sc fb && E.chka N sc fb es
def E.chkk (N : List Str) (sc : Scope) (fb : Str → Bool) : List (E × E) → Bool
  | [] => true
  | (k, v) :: es => k.chk N sc fb && v.chk N sc fb && E.chkk N sc fb es
def E.chko (N : List Str) (sc : Scope) (fb : Str → Bool) : Option E → Bool
  | none => true
  | some e => e.chk N sc fb
def I.chk (N : List Str) (sc : Scope) (fb : Str → Bool) : I → Bool
  | .ex e => e.chk N sc fb
  | .rg1 a _ _ => glB sc "range" && a.chk N sc fb
  | .rg2 a b _ _ => glB sc "range" && a.chk N sc fb && b.chk N sc fb
  | .enu e _ _ => glB sc "enumerate" && e.chk N sc fb
  | .zip a b _ _ => glB sc "zip" && a.chk N sc fb && b.chk N sc fb
end
end

section
variable {X : Cx} {W : WX} {C : Nat → D} {Γ : Fns} {cn fn : Nat → Str} {σ : L2.St} {R R1 : RE} {H H1 : Hp} {ρ : Env}
theorem vis_of {sc : Scope} {x : Str} (h : visB sc x = true) : Vis sc x := by
  unfold visB at h
  split at h
  · exact .inl (by assumption)
  · exact .inr (.inl (by assumption))
  · exact .inr (.inr (by assumption))
  · cases h
theorem loc_of {sc : Scope} {fb : Str → Bool} {x : Str} (h : locB sc fb x = true) : Loc sc x ∧ (fb x = true ∨ sc.names.lookup x = some .local) := by
  unfold locB at h
  split at h
  · exact ⟨.inl (by assumption), .inr (by assumption)⟩
  · exact ⟨.inr (by assumption), .inl h⟩
  · cases h
theorem gl_of {x : Str} (h : glB X.env.scope x = true) : Gl X x ∧ (x == ("__debug__" : Str)) = false := by
  unfold glB at h
  rw [Bool.and_eq_true] at h
  refine ⟨?_, by simpa using h.2⟩
  have h1 := h.1
  split at h1
  · assumption
  · cases h1

theorem star_py (e : E) (rest : List Expr) (env : PySem.Env) : starEach (e.py :: rest) env = (false, eval e.py env) :: starEach rest env := by
  cases e <;> (simp only [E.py]; rfl)
theorem base_py {o : E} (h : o.noCall0 = true) (m : Str) (env : PySem.Env) : attributeBase o.py m env (eval o.py env) = eval o.py env := by
  cases o <;> first
    | (simp only [E.py]; rfl)
    | (rename_i as _ _
       cases as with
       | nil => cases h
       | cons a as => simp only [E.py, E.pys]; rfl)
    | skip
theorem ix_py (e : E) : PlainIx e.py := by
  intro o i
  cases e <;> (simp only [E.py]; rfl)
theorem mark_py (o : CmpOp) (e : E) : behindInMarks o e.py = false := by
  cases e <;> (simp only [E.py]; rfl)
theorem fold_py (e : E) (env : PySem.Env) (x : Value) : foldedSetIterable e.py env x = pure x := by
  cases e <;> (simp only [E.py]; rfl)
theorem fold_I (i : I) (env : PySem.Env) (x : Value) : foldedSetIterable i.py env x = pure x := by
  cases i
  · exact fold_py _ _ _
  all_goals (simp only [I.py]; rfl)
theorem pa_pys_plain : ∀ (es : List E) (env : PySem.Env) (pos : Pos), (backTo pos (starEach (E.pys es) env)).any (·.1) = false
  | [], env, pos => rfl
  | e :: es, env, pos => by
    rw [E.pys, star_py]
    show (false || (backTo pos (starEach (E.pys es) env)).any (·.1)) = false
    rw [Bool.false_or]
    exact pa_pys_plain es env pos
theorem pa_pys_all : ∀ (es : List E) (env : PySem.Env) (pos : Pos), (backTo pos (starEach (E.pys es) env)).all (fun x => !x.1) = true
  | [], env, pos => rfl
  | e :: es, env, pos => by
    rw [E.pys, star_py]
    show (true && (backTo pos (starEach (E.pys es) env)).all (fun x => !x.1)) = true
    rw [Bool.true_and]
    exact pa_pys_all es env pos
theorem pys_len : ∀ (es : List E), (E.pys es).length = es.length
  | [] => rfl
  | e :: es => by rw [E.pys, List.length_cons, List.length_cons, pys_len es]

/-! ### binding -/
theorem asg_py (t : Tg) (ts : List Expr) (env : PySem.Env) : assignEach (t.py :: ts) env = (false, assign t.py env) :: assignEach ts env := by
  cases t <;> (simp only [Tg.py]; rfl)
theorem asg_len : ∀ (ts : List Tg) (env : PySem.Env), (assignEach (Tg.pys ts) env).length = ts.length
  | [], env => rfl
  | t :: ts, env => by rw [Tg.pys, asg_py, List.length_cons, asg_len ts env, List.length_cons]
theorem asg_no : ∀ (ts : List Tg) (env : PySem.Env), (assignEach (Tg.pys ts) env).findIdx? (·.1) = none
  | [], env => rfl
  | t :: ts, env => by rw [Tg.pys, asg_py, List.findIdx?_cons, asg_no ts env]; rfl
theorem binds_len : ∀ {ts : List Tg} {ds : List D} {k : Nat} {ρ ρ' : Env}, Tg.binds ts ds k ρ = some ρ' → ds.length = ts.length
  | [], [], _, _, _, _ => rfl
  | t :: ts, d :: ds, k, ρ, ρ', h => by
    unfold Tg.binds at h
    split at h
    · rw [List.length_cons, List.length_cons, binds_len h]
    · cases h
  | [], _ :: _, _, _, _, h => by cases h
  | _ :: _, [], _, _, _, h => by cases h
mutual
theorem tg_ok (calm : X.calm = true) (nd : X.N.Nodup) (x : RIn R H) (eK : R.K = X.K) (vs : List Nat) : ∀ (t : Tg) (d : D) (k : Nat) (ρ ρ' : Env) (σ : L2.St) (v : V) (Q : L2.St → Hp → Prop), t.chk X.N X.env.scope X.fn vs = true → t.bind d k ρ = some ρ' → Rep R k d v → Rel R ρ σ →
    (∀ σ', Rel R ρ' σ' → L2.wipe σ' vs = L2.wipe σ vs → Q σ' H) → WG X t.py v σ H Q
  | .nm i y p, d, k, ρ, ρ', σ, v, Q, ck, b, r, rel, q => by
    simp only [Tg.chk, Bool.and_eq_true, decide_eq_true_eq] at ck
    obtain ⟨l1, l2⟩ := loc_of ck.1.2
    unfold Tg.bind at b
    split at b
    · cases b
      exact WG.of (pg_name nd ck.1.1 l1 l2) (q _ (rel.set r) (wipe_set (by simpa using ck.2)))
    · cases b
  | .tp ts kk p, d, k, ρ, ρ', σ, v, Q, ck, b, r, rel, q => by
    unfold Tg.chk at ck
    cases d with
    | tup ds =>
      have b : Tg.binds ts ds (pr k) ρ = some ρ' := by rw [Tg.bind] at b; exact b
      obtain ⟨a, us, rfl, t, r⟩ := r
      refine WG.of (pg_tup calm (pgs_wgs (Tg.pys ts)) (asg_len ts X.env) (asg_no ts X.env)) ⟨a, us, rfl, eK ▸ x.tup t, ?_, ?_⟩
      · rw [← r.length]; exact binds_len b
      · exact tgs_ok calm nd x eK vs ts ds (pr k) ρ ρ' σ us Q ck b r rel q
    | _ => simp [Tg.bind] at b
theorem tgs_ok (calm : X.calm = true) (nd : X.N.Nodup) (x : RIn R H) (eK : R.K = X.K) (vs : List Nat) : ∀ (ts : List Tg) (ds : List D) (k : Nat) (ρ ρ' : Env) (σ : L2.St) (us : List V) (Q : L2.St → Hp → Prop), Tg.chks X.N X.env.scope X.fn vs ts = true → Tg.binds ts ds k ρ = some ρ' → Reps R k ds us → Rel R ρ σ →
    (∀ σ', Rel R ρ' σ' → L2.wipe σ' vs = L2.wipe σ vs → Q σ' H) → WGs X (Tg.pys ts) us σ H Q
  | [], [], k, ρ, ρ', σ, us, Q, ck, b, r, rel, q => by
    cases b
    cases r
    exact WGs.of pgs_nil ⟨rfl, q σ rel rfl⟩
  | t :: ts, d :: ds, k, ρ, ρ', σ, us, Q, ck, b, r, rel, q => by
    simp only [Tg.chks, Bool.and_eq_true] at ck
    obtain ⟨v, ws, rfl, r1, r2⟩ := r
    unfold Tg.binds at b
    split at b
    · rename_i ρ1 b1
      refine WGs.of (pgs_cons (pg_wg t.py) (pgs_wgs (Tg.pys ts)) (by rw [asg_py]; rfl)) ⟨v, ws, rfl, ?_⟩
      refine tg_ok calm nd x eK vs t d _ ρ ρ1 σ v _ ck.1 b1 (scal_rep r1) rel fun σ1 rel1 w1 => ?_
      exact tgs_ok calm nd x eK vs ts ds k ρ1 ρ' σ1 ws Q ck.2 b r2 rel1 fun σ2 rel2 w2 => q σ2 rel2 (w2.trans w1)
    · cases b
  | [], _ :: _, _, _, _, _, _, _, _, b, _, _, _ => by cases b
  | _ :: _, [], _, _, _, _, _, _, _, b, _, _, _ => by cases b
end

/-! ### calls of the law's own functions -/
theorem rep_scal {R R' : RE} {j k : Nat} {d : D} {v : V} (s : d.isScal = true) (h : Rep R j d v) : Rep R' k d v := by
  cases d with
  | non => exact h
  | bl b => exact h
  | int i => exact h
  | str s => exact h
  | _ => exact absurd s (by simp [D.isScal])
mutual
theorem rep_big {R R' : RE} (eK : R'.K = R.K) (ew : R'.w = R.w) (f : ∀ a u, R.F a = some u → R'.G a = some u) (μ : ∀ n a, R.μ n = some a → R'.μ n = some a) (S : ∀ a n, R.S a n → R'.S a n) : ∀ (d : D) (v : V), Rep R 0 d v → Rep R' 1000 d v
  | .non, v, h => h
  | .bl b, v, h => h
  | .int i, v, h => h
  | .str s, v, h => h
  | .tup xs, v, h => by
    obtain ⟨a, vs, e, t, r⟩ := h
    refine ⟨a, vs, e, ?_, reps_big eK ew f μ S xs vs r⟩
    rcases t with t | t
    · exact .inl (f a _ t)
    · exact .inr (by rw [eK]; exact t)
  | .lst xs, v, h => by
    obtain ⟨a, vs, e, t, r⟩ := h
    exact ⟨a, vs, e, f a _ t, reps_big eK ew f μ S xs vs r⟩
  | .dct false kvs, v, h => by
    obtain ⟨a, vs, e, ks, t, l, r⟩ := h
    refine ⟨a, vs, e, ks, ?_, l, repK_big eK ew f μ S kvs ks vs r⟩
    rcases t with t | t
    · exact .inl (f a _ t)
    · exact .inr (by rw [eK, ew]; exact t)
  | .dct true kvs, v, h => by
    obtain ⟨a, vs, e, ks, t, l, r⟩ := h
    exact ⟨a, vs, e, ks, f a _ t, l, repT_big eK ew f μ S kvs ks vs r⟩
  | .obj n, v, h => by
    obtain ⟨a, e, t⟩ := h
    exact ⟨a, e, μ n a t⟩
  | .scr n, v, h => by
    obtain ⟨a, e, t⟩ := h
    exact ⟨a, e, S a n t⟩
theorem reps_big {R R' : RE} (eK : R'.K = R.K) (ew : R'.w = R.w) (f : ∀ a u, R.F a = some u → R'.G a = some u) (μ : ∀ n a, R.μ n = some a → R'.μ n = some a) (S : ∀ a n, R.S a n → R'.S a n) : ∀ (ds : List D) (vs : List V), Reps R 0 ds vs → Reps R' 1000 ds vs
  | [], vs, h => h
  | d :: ds, vs, h => by
    obtain ⟨v, r, e, h1, h2⟩ := h
    exact ⟨v, r, e, rep_big eK ew f μ S d v h1, reps_big eK ew f μ S ds r h2⟩
theorem repK_big {R R' : RE} (eK : R'.K = R.K) (ew : R'.w = R.w) (f : ∀ a u, R.F a = some u → R'.G a = some u) (μ : ∀ n a, R.μ n = some a → R'.μ n = some a) (S : ∀ a n, R.S a n → R'.S a n) : ∀ (ds : List (D × D)) (ks : List Key) (vs : List V), RepK R 0 ds ks vs → RepK R' 1000 ds ks vs
  | [], ks, vs, h => h
  | (y, d) :: ds, ks, vs, h => by
    obtain ⟨q, v, qs, r, e1, e2, e3, h1, h2⟩ := h
    exact ⟨q, v, qs, r, e1, e2, e3, rep_big eK ew f μ S d v h1, repK_big eK ew f μ S ds qs r h2⟩
theorem repT_big {R R' : RE} (eK : R'.K = R.K) (ew : R'.w = R.w) (f : ∀ a u, R.F a = some u → R'.G a = some u) (μ : ∀ n a, R.μ n = some a → R'.μ n = some a) (S : ∀ a n, R.S a n → R'.S a n) : ∀ (ds : List (D × D)) (ks : List (List Key)) (vs : List V), RepT R 0 ds ks vs → RepT R' 1000 ds ks vs
  | [], ks, vs, h => h
  | (y, d) :: ds, ks, vs, h => by
    obtain ⟨q, v, qs, r, e1, e2, e3, h1, h2⟩ := h
    exact ⟨q, v, qs, r, e1, e2, e3, rep_big eK ew f μ S d v h1, repT_big eK ew f μ S ds qs r h2⟩
end
mutual
/-- all is borrowed from: all is frozen in a heap that is all that is known -/
theorem rep_all {R R' : RE} (x : R.In) (eK : R'.K = R.K) (ew : R'.w = R.w) (f : ∀ a u, R.G a = some u → R'.F a = some u) (μ : ∀ n a, R.μ n = some a → R'.μ n = some a) (S : ∀ a n, R.S a n → R'.S a n) (g : R'.In) : ∀ (k : Nat) (d : D) (v : V), Rep R k d v → Rep R' 0 d v
  | k, .non, v, h => h
  | k, .bl b, v, h => h
  | k, .int i, v, h => h
  | k, .str s, v, h => h
  | k, .tup xs, v, h => by
    obtain ⟨a, vs, e, t, r⟩ := h
    refine ⟨a, vs, e, ?_, reps_all x eK ew f μ S g _ xs vs r⟩
    rcases t with t | t
    · exact .inl (f a _ (x.hp (Nat.le_succ k) a _ t))
    · exact .inr (by rw [eK]; exact t)
  | k, .lst xs, v, h => by
    obtain ⟨a, vs, e, t, r⟩ := h
    exact ⟨a, vs, e, f a _ (x.hp (Nat.le_succ k) a _ t), reps_all x eK ew f μ S g _ xs vs r⟩
  | k, .dct false kvs, v, h => by
    obtain ⟨a, vs, e, ks, t, l, r⟩ := h
    refine ⟨a, vs, e, ks, ?_, l, repK_all x eK ew f μ S g _ kvs ks vs r⟩
    rcases t with t | t
    · exact .inl (f a _ (x.hp (Nat.le_succ k) a _ t))
    · exact .inr (by rw [eK, ew]; exact t)
  | k, .dct true kvs, v, h => by
    obtain ⟨a, vs, e, ks, t, l, r⟩ := h
    exact ⟨a, vs, e, ks, f a _ (x.hp (Nat.le_succ k) a _ t), l, repT_all x eK ew f μ S g _ kvs ks vs r⟩
  | k, .obj n, v, h => by
    obtain ⟨a, e, t⟩ := h
    exact ⟨a, e, μ n a t⟩
  | k, .scr n, v, h => by
    obtain ⟨a, e, t⟩ := h
    exact ⟨a, e, S a n t⟩
theorem reps_all {R R' : RE} (x : R.In) (eK : R'.K = R.K) (ew : R'.w = R.w) (f : ∀ a u, R.G a = some u → R'.F a = some u) (μ : ∀ n a, R.μ n = some a → R'.μ n = some a) (S : ∀ a n, R.S a n → R'.S a n) (g : R'.In) : ∀ (k : Nat) (ds : List D) (vs : List V), Reps R k ds vs → Reps R' 0 ds vs
  | k, [], vs, h => h
  | k, d :: ds, vs, h => by
    obtain ⟨v, r, e, h1, h2⟩ := h
    exact ⟨v, r, e, rep_all x eK ew f μ S g k d v h1, reps_all x eK ew f μ S g k ds r h2⟩
theorem repK_all {R R' : RE} (x : R.In) (eK : R'.K = R.K) (ew : R'.w = R.w) (f : ∀ a u, R.G a = some u → R'.F a = some u) (μ : ∀ n a, R.μ n = some a → R'.μ n = some a) (S : ∀ a n, R.S a n → R'.S a n) (g : R'.In) : ∀ (k : Nat) (ds : List (D × D)) (ks : List Key) (vs : List V), RepK R k ds ks vs → RepK R' 0 ds ks vs
  | k, [], ks, vs, h => h
  | k, (y, d) :: ds, ks, vs, h => by
    obtain ⟨q, v, qs, r, e1, e2, e3, h1, h2⟩ := h
    exact ⟨q, v, qs, r, e1, e2, e3, rep_all x eK ew f μ S g k d v h1, repK_all x eK ew f μ S g k ds qs r h2⟩
theorem repT_all {R R' : RE} (x : R.In) (eK : R'.K = R.K) (ew : R'.w = R.w) (f : ∀ a u, R.G a = some u → R'.F a = some u) (μ : ∀ n a, R.μ n = some a → R'.μ n = some a) (S : ∀ a n, R.S a n → R'.S a n) (g : R'.In) : ∀ (k : Nat) (ds : List (D × D)) (ks : List (List Key)) (vs : List V), RepT R k ds ks vs → RepT R' 0 ds ks vs
  | k, [], ks, vs, h => h
  | k, (y, d) :: ds, ks, vs, h => by
    obtain ⟨q, v, qs, r, e1, e2, e3, h1, h2⟩ := h
    exact ⟨q, v, qs, r, e1, e2, e3, rep_all x eK ew f μ S g k d v h1, repT_all x eK ew f μ S g k ds qs r h2⟩
end
theorem rVs_reps0 : ∀ {xs : List DL} {vs : List V}, rVs R xs vs → maxLv xs = 0 → Reps R 0 (xs.map (·.1)) vs
  | [], _, h, _ => by cases h; rfl
  | x :: xs, _, h, e => by
    cases h with
    | cons r t =>
      have e' : max x.2 (maxLv xs) = 0 := e
      have e1 : x.2 = 0 := by omega
      have e2 : maxLv xs = 0 := by omega
      have r' : Rep R x.2 x.1 _ := r
      rw [e1] at r'
      exact ⟨_, _, rfl, r', rVs_reps0 t e2⟩
theorem rVs_max (x : R.In) : ∀ {xs : List DL} {vs : List V} {k : Nat}, rVs R xs vs → maxLv xs ≤ k → Reps R k (xs.map (·.1)) vs
  | [], _, _, h, _ => by cases h; rfl
  | d :: xs, _, k, h, e => by
    cases h with
    | cons r t =>
      have e' : max d.2 (maxLv xs) ≤ k := e
      exact ⟨_, _, rfl, Rep.up x _ _ _ _ (by omega) r, rVs_max x t (by omega)⟩
theorem rVs.ext {R R' : RE} (x : REx R R') : ∀ {xs : List DL} {vs : List V}, rVs R xs vs → rVs R' xs vs
  | [], _, h => by cases h; exact .nil
  | d :: xs, _, h => by
    cases h with
    | cons r t => exact .cons (Rep.ext x _ _ _ r) (rVs.ext x t)
theorem spD_of {n : Nat} {xs : List DL} {vs : List V} {Q : VK} (eK : R.K = X.K) (ew : R.w = X.w) (x : RIn R H) (h : rVs R xs vs) (f : Fin rV X W σ R H (callD Γ n xs) Q) :
    spD X.K X.w X.mg (Γ n) vs H Q (fun cls d H' => W cls d σ H') := by
  unfold callD at f
  by_cases e0 : maxLv xs = 0
  · rw [if_pos e0] at f
    refine ⟨R, xs.map (·.1), eK, ew, x, rVs_reps0 h e0, ?_⟩
    split at f
    · rename_i d e
      (try rw [e])
      have f : Good R H (d, lvlOf d 0) Q := f.good
      rwa [lvlOf_zero] at f
    · rename_i c a e
      (try rw [e])
      split at f
      · exact fun C m R' H' dd v p r ed => f C m R' H' dd v p r ed
      · exact f.elim
    · exact f.elim
  · rw [if_neg e0] at f
    have inn : RE.In { R with F := R.G } := fun a u e => e
    refine ⟨{ R with F := R.G }, xs.map (·.1), eK, ew, ⟨inn, x.sub, x.scr⟩, ?_, ?_⟩
    · exact reps_all (R' := { R with F := R.G }) x.inn rfl rfl (fun _ _ e => e) (fun _ _ e => e) (fun _ _ e => e) inn _ _ _ (rVs_max x.inn h (Nat.le_refl _))
    · have back : ∀ {R' : RE} {H' : Hp}, Post { R with F := R.G } H R' H' → Post R H { R' with F := R.F } H' := fun {R' H'} p =>
        ⟨⟨p.ex.K, p.ex.w, fun _ _ e => e, fun a u e => p.ex.G a u e, p.ex.μ, p.ex.S, p.ex.S'⟩, ⟨fun a u e => p.rin.inn a u (p.ex.F a u (x.inn a u e)), p.rin.sub, p.rin.scr⟩, p.same, p.fresh, fun _ _ e => .inl e⟩
      split at f
      · rename_i d e
        (try rw [e])
        intro v R' H' p r
        refine f.good v _ H' (back p) ?_
        unfold lvlOf
        split
        · exact rep_scal (by assumption) r
        · exact rep_big (R := R') (R' := { R' with F := R.F }) rfl rfl (fun a u e => p.rin.inn a u e) (fun _ _ e => e) (fun _ _ e => e) d v r
      · rename_i c a e
        (try rw [e])
        split at f
        · rename_i sc
          exact fun C m R' H' dd v p r ed => f C m _ H' dd v (back p) (rep_scal sc r) ed
        · exact f.elim
      · exact f.elim
/-- a call at the slots that are -/
theorem run_at {k : Nat} {f : Addr} {sp : Sp} {pins : List (Addr × Obj)} {s : Shared} {Q : VK} {us : List Value} {vs : List V} (F : FnR X.prog X.w X.K X.mg X.base (CX X.prog X.w) k f sp) (hr : Room k X.A) (tk : Takes X W)
    (I : Inv X pins σ H s) (r : Vals vs us) (h : sp vs H Q (fun cls d H' => W cls d σ H')) : wpAny (model X.prog X.w) X.A (call (.ref f) us) (EP X pins σ Q) X.xe s := by
  refine wpAny_call (codeAny_mono (F X.A X.stack s H us vs Q _ hr I.env0 r h) fun r s' hq => ?_)
  cases r with
  | error e => exact tk e s' (XE.of_call I (fun cls d H' h => h) hq)
  | ok fl =>
    cases fl with
    | ret u => exact I.after hq
    | next => exact False.elim hq
    | brk => exact False.elim hq
    | cont => exact False.elim hq
theorem pe_callF {k : Nat} {f : Addr} {sp : Sp} {x : Str} {p pos : Pos} {e : E} {es : List E} (F : FnR X.prog X.w X.K X.mg X.base (CX X.prog X.w) k f sp) (hr : Room k X.A) (tk : Takes X W) (hg : Gl X x) (hdb : (x == ("__debug__" : Str)) = false) (hm : X.mg x = some (.ref f))
    (hk : PySem.W.keepIn X.K (.ref f) = true) {Q : VK} (h : WA X (E.pys (e :: es)) σ H fun vs H1 => sp vs H1 Q (fun cls d H' => W cls d σ H')) : WE X (.Call (.Name x p) (E.pys (e :: es)) [] pos) σ H Q := by
  intro pins s I
  refine wpAny_Call_Name_kw (ld_glob I hg hm ?_ hdb)
  refine PySem.W.callWith_K (h₀ := X.base) I.ok.mod.kin hk (thn (h pos pins s I) fun us s1 ⟨vs, H1, I1, r, q⟩ => ⟨I1.kIn, ?_⟩) (star_py e (E.pys es) X.env) (pa_pys_plain es X.env pos)
  exact run_at F hr tk I1 r q
theorem pe_callF0 {k : Nat} {f : Addr} {sp : Sp} {x : Str} {p pos : Pos} (F : FnR X.prog X.w X.K X.mg X.base (CX X.prog X.w) k f sp) (hr : Room k X.A) (tk : Takes X W) (hg : Gl X x) (hdb : (x == ("__debug__" : Str)) = false) (hm : X.mg x = some (.ref f))
    (hk : PySem.W.keepIn X.K (.ref f) = true) {Q : VK} (h : sp [] H Q (fun cls d H' => W cls d σ H')) : WE X (.Call (.Name x p) [] [] pos) σ H Q := by
  intro pins s I
  refine wpAny_Call_Name_kw (ld_glob I hg hm ?_ hdb)
  exact PySem.W.callWith_K0 I.kIn hk (run_at F hr tk I .nil h)
end
end Ev
set_option Elab.async false
set_option linter.all false
set_option maxRecDepth 100000
set_option maxHeartbeats 1000000
/-! Ev14: expressions, one form at a time. -/
namespace Ev
open PySem PySem.Spec PyProof.Rows L2
section
variable {C : Nat → D} {Γ : Fns} {cn fn : Nat → Str}
def SE (C : Nat → D) (Γ : Fns) (cn fn : Nat → Str) (e : E) : Prop := ∀ {X : Cx} {W : WX} {σ : L2.St} {R : RE} {H : Hp} {ρ : Env} {Q : VK}, Cd X W C Γ cn fn σ R H ρ → e.chk cn fn X.N X.env.scope X.fn = true → Fin rV X W σ R H (evE C Γ e ρ) Q → WE X e.py σ H Q
def STe (C : Nat → D) (Γ : Fns) (cn fn : Nat → Str) (e : E) : Prop := ∀ {X : Cx} {W : WX} {σ : L2.St} {R : RE} {H : Hp} {ρ : Env} {Q : Bool → Hp → Prop}, Cd X W C Γ cn fn σ R H ρ → e.chk cn fn X.N X.env.scope X.fn = true → e.isIfe = false → Fin rEq X W σ R H (evE C Γ e ρ >>= truD) Q → WT X e.py σ H Q
def SA (C : Nat → D) (Γ : Fns) (cn fn : Nat → Str) (es : List E) : Prop := ∀ {X : Cx} {W : WX} {σ : L2.St} {R : RE} {H : Hp} {ρ : Env} {Q : List V → Hp → Prop}, Cd X W C Γ cn fn σ R H ρ → E.chks cn fn X.N X.env.scope X.fn es = true → Fin rVs X W σ R H (evEs C Γ es ρ) Q → WA X (E.pys es) σ H Q
def SAs (C : Nat → D) (Γ : Fns) (cn fn : Nat → Str) (es : List (Option Pos × E)) : Prop := ∀ {X : Cx} {W : WX} {σ : L2.St} {R : RE} {H : Hp} {ρ : Env} {Q : List V → Hp → Prop}, Cd X W C Γ cn fn σ R H ρ → E.chka cn fn X.N X.env.scope X.fn es = true → Fin rVs X W σ R H (evAs C Γ es ρ) Q → WA X (E.pya es) σ H Q
def rKVs (R : RE) (ds : List (D × DL)) (vs : List (V × V)) : Prop := Paired (fun (d : D × DL) (v : V × V) => (∃ k, Rep R k d.1 v.1) ∧ rV R d.2 v.2) ds vs
def trsOf (X : Cx) : List (E × E) → List (TE × TE)
  | [] => []
  | (k, v) :: es => (WE X k.py, WE X v.py) :: trsOf X es
def SK (C : Nat → D) (Γ : Fns) (cn fn : Nat → Str) (es : List (E × E)) : Prop := ∀ {X : Cx} {W : WX} {σ : L2.St} {R : RE} {H : Hp} {ρ : Env} {Q : List (V × V) → Hp → Prop}, Cd X W C Γ cn fn σ R H ρ → E.chkk cn fn X.N X.env.scope X.fn es = true → Fin rKVs X W σ R H (evKs C Γ es ρ) Q → tPairs (trsOf X es) σ H Q
def SO (C : Nat → D) (Γ : Fns) (cn fn : Nat → Str) (o : Option E) : Prop := ∀ {X : Cx} {W : WX} {σ : L2.St} {R : RE} {H : Hp} {ρ : Env} {Q : Option Int → Hp → Prop}, Cd X W C Γ cn fn σ R H ρ → E.chko cn fn X.N X.env.scope X.fn o = true → Fin rEq X W σ R H (evO C Γ o ρ) Q → WP X (E.pyo o) σ H Q
def SI (C : Nat → D) (Γ : Fns) (cn fn : Nat → Str) (i : I) : Prop := ∀ {X : Cx} {W : WX} {σ : L2.St} {R : RE} {H : Hp} {ρ : Env} {Q : It → Hp → Prop} (tg : Tg), (i.needsTp = true → tg.isTp = true) → Cd X W C Γ cn fn σ R H ρ → i.chk cn fn X.N X.env.scope X.fn = true →
  Fin (fun R' xs J => Wk R' J xs) X W σ R H (evI C Γ i ρ) Q → WIt X tg.py i.py σ H Q

/-! ### truth -/
theorem tru_of {X : Cx} {R : RE} {H : Hp} {d : DL} {v : V} {b : Bool} (x : RIn R H) (eK : R.K = X.K) (e : truD d = .ok b) (h : rV R d v) : TruV X.K v H b := by
  obtain ⟨d, k⟩ := d
  unfold truD at e
  split at e
  · rename_i q; cases q; cases e; cases h; exact rfl
  · rename_i q; cases q; cases e; cases h; exact rfl
  · rename_i q; cases q; cases e; cases h; exact rfl
  · rename_i q; cases q; cases e
    obtain ⟨a, vs, rfl, t, r⟩ := h
    have l := r.length
    refine .inl ⟨vs, eK ▸ x.lst t, ?_⟩
    rename_i xs
    cases xs <;> cases vs <;> first | rfl | (simp at l)
  · rename_i q; cases q; cases e
    obtain ⟨a, vs, rfl, t, r⟩ := h
    have l := r.length
    refine .inr (.inl ⟨vs, eK ▸ x.tup t, ?_⟩)
    rename_i xs
    cases xs <;> cases vs <;> first | rfl | (simp at l)
  · cases e
theorem t_plain {e : E} (h : SE C Γ cn fn e) (hp : ∀ (env : PySem.Env) whole, isTrue e.py env whole = (do let v ← whole; standAt e.py.pos; holding [v] (truthy v))) : STe C Γ cn fn e := by
  intro X W σ R H ρ Q cd ck _ f
  refine WT.of (pt_truth (pe_we e.py) (hp X.env)) ?_
  refine h cd ck (Fin.step f fun d v R1 H1 e1 p1 r1 f1 => ?_)
  obtain ⟨b, eb, f2⟩ := f1.no (tru_nox _)
  exact ⟨b, tru_of p1.rin (p1.ex.K.trans cd.eK) eb r1, f2.ok p1.rin rfl⟩

/-! ### names, constants -/
theorem s_var (i : Nat) (x : Str) (p : Pos) : SE C Γ cn fn (.var i x p) := by
  intro X W σ R H ρ Q cd ck f
  simp only [E.chk, Bool.and_eq_true, decide_eq_true_eq, Bool.not_eq_true'] at ck
  refine WE.of (pe_var ck.1.1.1 (vis_of ck.1.1.2) ck.1.2 ck.2) ?_
  rw [evE] at f
  split at f
  · rename_i t e
    obtain ⟨v, e1, e2⟩ := cd.rel.at_ i t e
    exact ⟨v, e1, f.ok cd.rin e2⟩
  · exact f.elim
theorem s_cst (n : Nat) (x : Str) (p : Pos) : SE C Γ cn fn (.cst n x p) := by
  intro X W σ R H ρ Q cd ck f
  simp only [E.chk, Bool.and_eq_true, decide_eq_true_eq] at ck
  obtain ⟨g1, g2⟩ := gl_of ck.1
  obtain ⟨u, v, e, r, _, rp⟩ := cd.kn.cst n
  rw [← ck.2] at e
  exact WE.of (pe_glob g1 e r g2) (f.ok cd.rin (rp R cd.eK cd.ew))
theorem s_int (n : Int) (j : Nat) (p : Pos) : SE C Γ cn fn (.int n j p) := fun cd ck f => WE.of pe_int (f.ok cd.rin (show Rep _ _ _ _ from rfl))
theorem s_bl (n : Bool) (j : Nat) (p : Pos) : SE C Γ cn fn (.bl n j p) := fun cd ck f => WE.of pe_bl (f.ok cd.rin (show Rep _ _ _ _ from rfl))
theorem s_non (j : Nat) (p : Pos) : SE C Γ cn fn (.non j p) := fun cd ck f => WE.of pe_non (f.ok cd.rin (show Rep _ _ _ _ from rfl))
theorem s_str (n : Str) (j : Nat) (p : Pos) : SE C Γ cn fn (.str n j p) := fun cd ck f => WE.of pe_str (f.ok cd.rin (show Rep _ _ _ _ from rfl))

/-! ### operators -/
variable {a b c : E}
theorem s_bin {o : Operator} {p : Pos} (ha : SE C Γ cn fn a) (hb : SE C Γ cn fn b) : SE C Γ cn fn (.bin o a b p) := by
  intro X W σ R H ρ Q cd ck f
  simp only [E.chk, Bool.and_eq_true] at ck
  rw [evE] at f
  refine WE.of (pe_op (opR_WO _) (pe_we _) (pe_we _)) ?_
  refine ha cd ck.1 (Fin.step f fun dx v R1 H1 e1 p1 r1 f1 => ?_)
  refine hb (cd.after p1) ck.2 (Fin.step f1 fun dy u R2 H2 e2 p2 r2 f2 => ?_)
  obtain ⟨r, er, f3⟩ := f2.no (bin_nox _ _ _)
  exact bin_ok p2.rin ((cd.after p1).after p2).eK er (Rep.ext p2.ex _ _ _ r1) r2 f3.good
theorem s_neg {p : Pos} (ha : SE C Γ cn fn a) : SE C Γ cn fn (.neg a p) := by
  intro X W σ R H ρ Q cd ck f
  rw [E.chk] at ck
  rw [evE] at f
  refine WE.of (pe_un un_neg (pe_we _)) ?_
  refine ha cd ck (Fin.step f fun dx v R1 H1 e1 p1 r1 f1 => ?_)
  obtain ⟨r, er, f3⟩ := f1.no (neg_nox _)
  unfold evNeg at er
  split at er
  · cases er
    exact ⟨_, r1, f3.ok p1.rin (show Rep _ _ _ _ from rfl)⟩
  · cases er
theorem s_not {p : Pos} (ha : SE C Γ cn fn a) : SE C Γ cn fn (.not a p) := by
  intro X W σ R H ρ Q cd ck f
  simp only [E.chk, Bool.and_eq_true] at ck
  rw [evE] at f
  refine WE.of (pe_notT (pe_we _)) ?_
  refine ha cd ck.1 (Fin.step f fun dx v R1 H1 e1 p1 r1 f1 => ?_)
  cases eb : truD dx with
  | ok k =>
    rw [eb] at f1
    exact ⟨k, tru_of p1.rin (cd.after p1).eK eb r1, Fin.ok f1 p1.rin (show Rep _ _ _ _ from rfl)⟩
  | exc q z => exact absurd eb (tru_nox _ _ _)
  | fail => rw [eb] at f1; exact f1.elim
theorem t_not {p : Pos} (ha : STe C Γ cn fn a) : STe C Γ cn fn (.not a p) := by
  intro X W σ R H ρ Q cd ck _ f
  simp only [E.chk, Bool.and_eq_true, Bool.not_eq_true'] at ck
  rw [evE] at f
  refine WT.of (pt_not (pt_wt _)) ?_
  refine ha cd ck.1 ck.2 ?_
  cases ea : evE C Γ a ρ with
  | ok d =>
    rw [ea] at f
    show Fin rEq X W σ R H (truD d) _
    cases eb : truD d with
    | ok k =>
      have f : Fin rEq X W σ R H ((truD d >>= fun b => Ev.R.ok (D.bl (!b), 0)) >>= truD) Q := f
      rw [eb] at f
      intro b R' H' p e
      cases e
      exact f (!k) R' H' p rfl
    | exc q z => exact absurd eb (tru_nox _ _ _)
    | fail =>
      have f : Fin rEq X W σ R H ((truD d >>= fun b => Ev.R.ok (D.bl (!b), 0)) >>= truD) Q := f
      rw [eb] at f; exact f.elim
  | exc q z => rw [ea] at f; exact f
  | fail => rw [ea] at f; exact f.elim
theorem s_cmp {o : CmpOp} {p : Pos} (ha : SE C Γ cn fn a) (hb : SE C Γ cn fn b) : SE C Γ cn fn (.cmp o a b p) := by
  intro X W σ R H ρ Q cd ck f
  simp only [E.chk, Bool.and_eq_true] at ck
  rw [evE] at f
  refine WE.of (pe_cmpR (opR_WO _) (pe_we _) (pe_we _) (mark_py _ _)) ?_
  refine ha cd ck.1 (Fin.step f fun dx v R1 H1 e1 p1 r1 f1 => ?_)
  refine hb (cd.after p1) ck.2 (Fin.step f1 fun dy u R2 H2 e2 p2 r2 f2 => ?_)
  have c2 := (cd.after p1).after p2
  cases ec : evCmp o dx dy with
  | ok k =>
    rw [ec] at f2
    exact cmp_ok c2.un p2.rin c2.eK c2.ew ec (Rep.ext p2.ex _ _ _ r1) r2 (Fin.ok f2 p2.rin (show Rep _ _ _ _ from rfl))
  | exc q z => exact absurd ec (cmp_nox _ _ _ _ _)
  | fail => rw [ec] at f2; exact f2.elim
theorem t_cmp {o : CmpOp} {p : Pos} (ha : SE C Γ cn fn a) (hb : SE C Γ cn fn b) : STe C Γ cn fn (.cmp o a b p) := by
  intro X W σ R H ρ Q cd ck _ f
  simp only [E.chk, Bool.and_eq_true] at ck
  refine WT.of (pt_cmpR (opR_WO _) (pe_we _) (pe_we _) (mark_py _ _)) ?_
  have g : Fin rEq X W σ R H (evE C Γ a ρ >>= fun x => evE C Γ b ρ >>= fun y => evCmp o x y) Q := by
    rw [evE] at f
    cases ea : evE C Γ a ρ with
    | ok d =>
      rw [ea] at f
      cases eb : evE C Γ b ρ with
      | ok d' =>
        rw [eb] at f
        show Fin rEq X W σ R H (evCmp o d d') Q
        have f : Fin rEq X W σ R H ((evCmp o d d' >>= fun c => Ev.R.ok (D.bl c, 0)) >>= truD) Q := f
        cases ec : evCmp o d d' with
        | ok k => rw [ec] at f; exact f
        | exc q z => exact absurd ec (cmp_nox _ _ _ _ _)
        | fail => rw [ec] at f; exact f
      | exc q z => rw [eb] at f; exact f
      | fail => rw [eb] at f; exact f
    | exc q z => rw [ea] at f; exact f
    | fail => rw [ea] at f; exact f
  refine ha cd ck.1 (Fin.step g fun dx v R1 H1 e1 p1 r1 f1 => ?_)
  refine hb (cd.after p1) ck.2 (Fin.step f1 fun dy u R2 H2 e2 p2 r2 f2 => ?_)
  have c2 := (cd.after p1).after p2
  obtain ⟨k, ec, f3⟩ := f2.no (cmp_nox _ _ _)
  exact cmp_ok c2.un p2.rin c2.eK c2.ew ec (Rep.ext p2.ex _ _ _ r1) r2 ⟨k, rfl, f3.ok p2.rin rfl⟩
theorem last_py (o1 o2 : CmpOp) (b c : E) : lastMarks [o1, o2] [b.py, c.py] = false := mark_py o2 c
/-- a chain's value -/
theorem chn_core {X : Cx} {W : WX} {σ : L2.St} {R : RE} {H : Hp} {ρ : Env} {Q : Bool → Hp → Prop} {o1 o2 : CmpOp} (ha : SE C Γ cn fn a) (hb : SE C Γ cn fn b) (hc : SE C Γ cn fn c) (cd : Cd X W C Γ cn fn σ R H ρ)
    (ca : a.chk cn fn X.N X.env.scope X.fn = true) (cb : b.chk cn fn X.N X.env.scope X.fn = true) (cc : c.chk cn fn X.N X.env.scope X.fn = true)
    (f : Fin rEq X W σ R H (evE C Γ a ρ >>= fun x => evE C Γ b ρ >>= fun y => evCmp o1 x y >>= fun r => match r with | true => (evE C Γ c ρ >>= fun z => evCmp o2 y z) | false => .ok false) Q) :
    tChain (fun x y H Q => WO X (compareOp o1) x y H Q) (fun x y H Q => WO X (compareOp o2) x y H Q) (WE X a.py) (WE X b.py) (WE X c.py) σ H (fun v H' => ∃ k, v = .bl k ∧ Q k H') := by
  refine ha cd ca (Fin.step f fun dx v R1 H1 e1 p1 r1 f1 => ?_)
  refine hb (cd.after p1) cb (Fin.step f1 fun dy u R2 H2 e2 p2 r2 f2 => ?_)
  have c2 := (cd.after p1).after p2
  cases ec : evCmp o1 dx dy with
  | ok k =>
    rw [ec] at f2
    refine cmp_ok c2.un p2.rin c2.eK c2.ew ec (Rep.ext p2.ex _ _ _ r1) r2 ⟨k, rfl, ?_⟩
    cases k with
    | true =>
      rw [if_pos rfl]
      have f2 : Fin rEq X W σ R2 H2 (evE C Γ c ρ >>= fun z => evCmp o2 dy z) Q := f2
      refine hc c2 cc (Fin.step f2 fun dz w R3 H3 e3 p3 r3 f3 => ?_)
      have c3 := c2.after p3
      obtain ⟨k, ec, f4⟩ := f3.no (cmp_nox _ _ _)
      exact cmp_ok c3.un p3.rin c3.eK c3.ew ec (Rep.ext p3.ex _ _ _ r2) r3 ⟨k, rfl, f4.ok p3.rin rfl⟩
    | false =>
      rw [if_neg Bool.false_ne_true]
      exact ⟨false, rfl, Fin.ok f2 p2.rin rfl⟩
  | exc q z => exact absurd ec (cmp_nox _ _ _ _ _)
  | fail => rw [ec] at f2; exact f2.elim
theorem chn_bl {o1 o2 : CmpOp} {p : Pos} {ρ : Env} : evE C Γ (.chn o1 o2 a b c p) ρ = (evE C Γ a ρ >>= fun x => evE C Γ b ρ >>= fun y => evCmp o1 x y >>= fun r => match r with | true => (evE C Γ c ρ >>= fun z => evCmp o2 y z) | false => .ok false) >>= fun k => .ok (.bl k, 0) := by
  rw [evE]
  cases evE C Γ a ρ with
  | ok d =>
    cases evE C Γ b ρ with
    | ok d' =>
      simp only [R.ok_bind]
      cases evCmp o1 d d' with
      | ok k =>
        cases k with
        | true =>
          simp only [R.ok_bind]
          cases evE C Γ c ρ <;> rfl
        | false => rfl
      | exc q z => rfl
      | fail => rfl
    | exc q z => rfl
    | fail => rfl
  | exc q z => rfl
  | fail => rfl
theorem Fin.blk {X : Cx} {W : WX} {σ : L2.St} {R : RE} {H : Hp} {r : Ev.R Bool} {Q : VK} (f : Fin rV X W σ R H (r >>= fun k => .ok (.bl k, 0)) Q) : Fin rEq X W σ R H r (fun k H' => Q (.bl k) H') := by
  cases r with
  | ok k => exact fun b R' H' p e => by cases e; exact f (.bl k) R' H' p rfl
  | exc q z => exact f
  | fail => exact f
theorem Fin.blkT {X : Cx} {W : WX} {σ : L2.St} {R : RE} {H : Hp} {r : Ev.R Bool} {Q : Bool → Hp → Prop} (f : Fin rEq X W σ R H ((r >>= fun k => .ok (.bl k, 0)) >>= truD) Q) : Fin rEq X W σ R H r Q := by
  cases r with
  | ok k => exact fun b R' H' p e => by cases e; exact f k R' H' p rfl
  | exc q z => exact f
  | fail => exact f
theorem s_chn {o1 o2 : CmpOp} {p : Pos} (ha : SE C Γ cn fn a) (hb : SE C Γ cn fn b) (hc : SE C Γ cn fn c) : SE C Γ cn fn (.chn o1 o2 a b c p) := by
  intro X W σ R H ρ Q cd ck f
  simp only [E.chk, Bool.and_eq_true] at ck
  rw [chn_bl] at f
  refine WE.of (pe_chain (opR_WO _) (opR_WO _) (pe_we _) (pe_we _) (pe_we _) (last_py _ _ _ _)) ?_
  have g := chn_core ha hb hc cd ck.1.1 ck.1.2 ck.2 f.blk
  have m : (fun v H' => ∃ k, v = V.bl k ∧ Q (.bl k) H') = fun v H' => (∃ k, v = V.bl k) ∧ Q v H' := by
    funext v H'
    apply propext
    exact ⟨fun ⟨k, e, q⟩ => ⟨⟨k, e⟩, e ▸ q⟩, fun ⟨⟨k, e⟩, q⟩ => ⟨k, e, e ▸ q⟩⟩
  rw [m] at g
  have mo : ∀ {o : CmpOp} {x y : V} {H : Hp} {Q Q' : VK}, WO X (compareOp o) x y H Q → (∀ v H', Q v H' → Q' v H') → WO X (compareOp o) x y H Q' := fun h i σ pins s v u I r1 r2 => thn (h σ pins s v u I r1 r2) fun _ _ ⟨z, H', I', r, q⟩ => ⟨z, H', I', r, i z H' q⟩
  refine WE.mono g fun v H1 g1 => WE.mono g1 fun u H2 g2 => mo g2 fun z H3 ⟨k, e, g3⟩ => ⟨k, e, ?_⟩
  cases k with
  | true =>
    rw [if_pos rfl] at g3 ⊢
    exact WE.mono g3 fun w H4 g4 => mo g4 fun _ _ q => q.2
  | false =>
    rw [if_neg Bool.false_ne_true] at g3 ⊢
    exact g3.2
theorem t_chn {o1 o2 : CmpOp} {p : Pos} (ha : SE C Γ cn fn a) (hb : SE C Γ cn fn b) (hc : SE C Γ cn fn c) : STe C Γ cn fn (.chn o1 o2 a b c p) := by
  intro X W σ R H ρ Q cd ck _ f
  simp only [E.chk, Bool.and_eq_true] at ck
  rw [chn_bl] at f
  refine WT.of (pt_chain (opR_WO _) (opR_WO _) (pe_we _) (pe_we _) (pe_we _) (last_py _ _ _ _)) ?_
  exact chn_core ha hb hc cd ck.1.1 ck.1.2 ck.2 f.blkT
theorem s_ife {p : Pos} (hc : STe C Γ cn fn c) (ha : SE C Γ cn fn a) (hb : SE C Γ cn fn b) : SE C Γ cn fn (.ife c a b p) := by
  intro X W σ R H ρ Q cd ck f
  simp only [E.chk, Bool.and_eq_true, Bool.not_eq_true'] at ck
  rw [evE] at f
  refine WE.of (pe_ifExp (pt_wt _) (pe_we _) (pe_we _)) ?_
  have g : Fin rV X W σ R H ((evE C Γ c ρ >>= truD) >>= fun r => match r with | true => evE C Γ a ρ | false => evE C Γ b ρ) Q := by
    cases ec : evE C Γ c ρ with
    | ok d => rw [ec] at f; exact f
    | exc q z => rw [ec] at f; exact f
    | fail => rw [ec] at f; exact f
  refine hc cd ck.1.1.1 ck.1.1.2 (Fin.step g fun k v R1 H1 e1 p1 r1 f1 => ?_)
  cases r1
  cases k with
  | true => rw [if_pos rfl]; exact ha (cd.after p1) ck.1.2 f1
  | false => rw [if_neg Bool.false_ne_true]; exact hb (cd.after p1) ck.2 f1

/-! ### and, or -/
def SAn (C : Nat → D) (Γ : Fns) (cn fn : Nat → Str) (es : List E) : Prop := ∀ {X : Cx} {W : WX} {σ : L2.St} {R : RE} {H : Hp} {ρ : Env}, Cd X W C Γ cn fn σ R H ρ → E.chkT cn fn X.N X.env.scope X.fn es = true →
  (∀ {p : Pos} {Q : VK}, Fin rV X W σ R H (evAnd C Γ es ρ) Q → WE X (.BoolOp .And (E.pys es) p) σ H Q) ∧ ∀ {p : Pos} {Q : Bool → Hp → Prop}, Fin rEq X W σ R H (evAnd C Γ es ρ >>= truD) Q → WW X (.BoolOp .And (E.pys es) p) σ H Q
def SOr (C : Nat → D) (Γ : Fns) (cn fn : Nat → Str) (es : List E) : Prop := ∀ {X : Cx} {W : WX} {σ : L2.St} {R : RE} {H : Hp} {ρ : Env}, Cd X W C Γ cn fn σ R H ρ → E.chkT cn fn X.N X.env.scope X.fn es = true →
  (∀ {p : Pos} {Q : VK}, Fin rV X W σ R H (evOr C Γ es ρ) Q → WE X (.BoolOp .Or (E.pys es) p) σ H Q) ∧ ∀ {p : Pos} {Q : Bool → Hp → Prop}, Fin rEq X W σ R H (evOr C Γ es ρ >>= truD) Q → WW X (.BoolOp .Or (E.pys es) p) σ H Q
theorem and_nil : SAn C Γ cn fn [] := by
  intro X W σ R H ρ cd ck
  refine ⟨fun f => ?_, fun f => ?_⟩
  · rw [evAnd] at f; exact f.elim
  · rw [evAnd] at f; exact f.elim
theorem or_nil : SOr C Γ cn fn [] := by
  intro X W σ R H ρ cd ck
  refine ⟨fun f => ?_, fun f => ?_⟩
  · rw [evOr] at f; exact f.elim
  · rw [evOr] at f; exact f.elim
theorem and_one (ha : SE C Γ cn fn a) (ta : STe C Γ cn fn a) : SAn C Γ cn fn [a] := by
  intro X W σ R H ρ cd ck
  simp only [E.chkT, Bool.and_eq_true, Bool.not_eq_true'] at ck
  refine ⟨fun f => ?_, fun f => ?_⟩
  · rw [evAnd] at f
    exact WE.of (pe_one (pe_we _)) (ha cd ck.1.1 f)
  · rw [evAnd] at f
    exact WW.of (pw_and1 (pt_wt _)) (ta cd ck.1.1 ck.1.2 f)
theorem or_one (ha : SE C Γ cn fn a) (ta : STe C Γ cn fn a) : SOr C Γ cn fn [a] := by
  intro X W σ R H ρ cd ck
  simp only [E.chkT, Bool.and_eq_true, Bool.not_eq_true'] at ck
  refine ⟨fun f => ?_, fun f => ?_⟩
  · rw [evOr] at f
    exact WE.of (pe_one (pe_we _)) (ha cd ck.1.1 f)
  · rw [evOr] at f
    exact WW.of (pw_or1 (pt_wt _)) (ta cd ck.1.1 ck.1.2 f)
theorem and_cons {es : List E} (ha : SE C Γ cn fn a) (ta : STe C Γ cn fn a) (hr : SAn C Γ cn fn (b :: es)) : SAn C Γ cn fn (a :: b :: es) := by
  intro X W σ R H ρ cd ck
  rw [E.chkT, Bool.and_eq_true, Bool.and_eq_true, Bool.not_eq_true'] at ck
  refine ⟨fun {p Q} f => ?_, fun {p Q} f => ?_⟩
  · rw [evAnd.eq_3 C Γ ρ a (b :: es) (by simp)] at f
    refine WE.of (pe_and (pe_we _) (pe_we _)) ?_
    refine ha cd ck.1.1 (Fin.step f fun dx v R1 H1 e1 p1 r1 f1 => ?_)
    have c1 := cd.after p1
    split at f1
    · cases r1
      exact ⟨true, rfl, by rw [if_pos rfl]; exact (hr c1 ck.2).1 f1⟩
    · cases r1
      exact ⟨false, rfl, by rw [if_neg Bool.false_ne_true]; exact f1.ok p1.rin (show Rep _ _ _ _ from rfl)⟩
    · exact f1.elim
  · rw [evAnd.eq_3 C Γ ρ a (b :: es) (by simp)] at f
    refine WW.of (pw_and (pt_wt _) (pw_ww _)) ?_
    refine ta cd ck.1.1 ck.1.2 ?_
    cases ea : evE C Γ a ρ with
    | ok d =>
      rw [ea] at f
      obtain ⟨d, k⟩ := d
      have f : Fin rEq X W σ R H ((match (d, k) with | (.bl true, _) => evAnd C Γ (b :: es) ρ | (.bl false, _) => .ok (.bl false, 0) | _ => .fail) >>= truD) Q := f
      split at f
      · rename_i q; cases q
        intro k' R' H' p e
        cases e
        show if true = true then _ else _
        rw [if_pos rfl]
        exact (hr (cd.after p) ck.2).2 (f.after p)
      · rename_i q; cases q
        intro k' R' H' p e
        cases e
        show if false = true then _ else _
        rw [if_neg Bool.false_ne_true]
        exact (f.after p).ok p.rin rfl
      · exact f.elim
    | exc q z => rw [ea] at f; exact f
    | fail => rw [ea] at f; exact f
theorem or_cons {es : List E} (ha : SE C Γ cn fn a) (ta : STe C Γ cn fn a) (hr : SOr C Γ cn fn (b :: es)) : SOr C Γ cn fn (a :: b :: es) := by
  intro X W σ R H ρ cd ck
  rw [E.chkT, Bool.and_eq_true, Bool.and_eq_true, Bool.not_eq_true'] at ck
  refine ⟨fun {p Q} f => ?_, fun {p Q} f => ?_⟩
  · rw [evOr.eq_3 C Γ ρ a (b :: es) (by simp)] at f
    refine WE.of (pe_or (pe_we _) (pe_we _)) ?_
    refine ha cd ck.1.1 (Fin.step f fun dx v R1 H1 e1 p1 r1 f1 => ?_)
    have c1 := cd.after p1
    split at f1
    · cases r1
      exact ⟨false, rfl, by rw [if_neg Bool.false_ne_true]; exact (hr c1 ck.2).1 f1⟩
    · cases r1
      exact ⟨true, rfl, by rw [if_pos rfl]; exact f1.ok p1.rin (show Rep _ _ _ _ from rfl)⟩
    · exact f1.elim
  · rw [evOr.eq_3 C Γ ρ a (b :: es) (by simp)] at f
    refine WW.of (pw_or (pt_wt _) (pw_ww _)) ?_
    refine ta cd ck.1.1 ck.1.2 ?_
    cases ea : evE C Γ a ρ with
    | ok d =>
      rw [ea] at f
      obtain ⟨d, k⟩ := d
      have f : Fin rEq X W σ R H ((match (d, k) with | (.bl false, _) => evOr C Γ (b :: es) ρ | (.bl true, _) => .ok (.bl true, 0) | _ => .fail) >>= truD) Q := f
      split at f
      · rename_i q; cases q
        intro k' R' H' p e
        cases e
        show if false = true then _ else _
        rw [if_neg Bool.false_ne_true]
        exact (hr (cd.after p) ck.2).2 (f.after p)
      · rename_i q; cases q
        intro k' R' H' p e
        cases e
        show if true = true then _ else _
        rw [if_pos rfl]
        exact (f.after p).ok p.rin rfl
      · exact f.elim
    | exc q z => rw [ea] at f; exact f
    | fail => rw [ea] at f; exact f
theorem s_and {es : List E} {p : Pos} (h : SAn C Γ cn fn es) : SE C Γ cn fn (.and es p) ∧ STe C Γ cn fn (.and es p) := by
  refine ⟨?_, ?_⟩
  · intro X W σ R H ρ Q cd ck f
    rw [E.chk] at ck
    rw [evE] at f
    exact (h cd ck).1 f
  · intro X W σ R H ρ Q cd ck _ f
    rw [E.chk] at ck
    rw [evE] at f
    exact ((h cd ck).2 f).wt
theorem s_or {es : List E} {p : Pos} (h : SOr C Γ cn fn es) : SE C Γ cn fn (.or es p) ∧ STe C Γ cn fn (.or es p) := by
  refine ⟨?_, ?_⟩
  · intro X W σ R H ρ Q cd ck f
    rw [E.chk] at ck
    rw [evE] at f
    exact (h cd ck).1 f
  · intro X W σ R H ρ Q cd ck _ f
    rw [E.chk] at ck
    rw [evE] at f
    exact ((h cd ck).2 f).wt
end
end Ev
set_option Elab.async false
set_option linter.all false
set_option maxRecDepth 100000
set_option maxHeartbeats 1000000
/-! Ev15: expressions, more forms. -/
namespace Ev
open PySem PySem.Spec PyProof.Rows L2
section
variable {C : Nat → D} {Γ : Fns} {cn fn : Nat → Str}
variable {a b c : E}

/-! ### lists of expressions -/
theorem as_nil : SA C Γ cn fn [] := fun cd ck f => WA.of pa_nil (by rw [evEs] at f; exact f.ok cd.rin .nil)
theorem as_cons {es : List E} (ha : SE C Γ cn fn a) (hr : SA C Γ cn fn es) : SA C Γ cn fn (a :: es) := by
  intro X W σ R H ρ Q cd ck f
  simp only [E.chks, Bool.and_eq_true] at ck
  rw [evEs] at f
  refine WA.of (pa_cons (pe_we _) (pa_wa _) (star_py _ _ _)) ?_
  refine ha cd ck.1 (Fin.step f fun dx v R1 H1 e1 p1 r1 f1 => ?_)
  refine hr (cd.after p1) ck.2 (Fin.step f1 fun ds vs R2 H2 e2 p2 r2 f2 => ?_)
  exact Fin.ok f2 p2.rin (.cons (Rep.ext p2.ex _ _ _ r1) r2)
theorem aas_nil : SAs C Γ cn fn [] := fun cd ck f => WA.of pa_nil (by rw [evAs] at f; exact f.ok cd.rin .nil)
theorem aas_cons {es : List (Option Pos × E)} (ha : SE C Γ cn fn a) (hr : SAs C Γ cn fn es) : SAs C Γ cn fn ((none, a) :: es) := by
  intro X W σ R H ρ Q cd ck f
  simp only [E.chka, Bool.and_eq_true] at ck
  rw [evAs] at f
  refine WA.of (pa_cons (pe_we _) (pa_wa _) (star_py _ _ _)) ?_
  refine ha cd ck.1 (Fin.step f fun dx v R1 H1 e1 p1 r1 f1 => ?_)
  refine hr (cd.after p1) ck.2 (Fin.step f1 fun ds vs R2 H2 e2 p2 r2 f2 => ?_)
  exact Fin.ok f2 p2.rin (.cons (Rep.ext p2.ex _ _ _ r1) r2)
theorem reps_rVs {R : RE} {k : Nat} : ∀ {ds : List D} {vs : List V}, Reps R k ds vs → rVs R (ds.map fun d => (d, lvlOf d k)) vs
  | [], _, h => by cases h; exact .nil
  | d :: ds, _, h => by
    obtain ⟨v, r, rfl, h1, h2⟩ := h
    exact .cons (scal_rep h1) (reps_rVs h2)
theorem rVs_app {R : RE} : ∀ {xs ys : List DL} {vs us : List V}, rVs R xs vs → rVs R ys us → rVs R (xs ++ ys) (vs ++ us)
  | [], _, _, _, h, g => by cases h; exact g
  | x :: xs, _, _, _, h, g => by
    cases h with
    | cons r t => exact .cons r (rVs_app t g)
theorem aas_star {es : List (Option Pos × E)} {q : Pos} (ha : SE C Γ cn fn a) (hr : SAs C Γ cn fn es) : SAs C Γ cn fn ((some q, a) :: es) := by
  intro X W σ R H ρ Q cd ck f
  simp only [E.chka, Bool.and_eq_true] at ck
  rw [evAs] at f
  refine WA.of (StX.pa_star (pe_we _) (pa_wa _)) ?_
  refine ha cd ck.1 (Fin.step f fun dx v R1 H1 e1 p1 r1 f1 => ?_)
  have c1 := cd.after p1
  split at f1
  · obtain ⟨t, ws, rfl, ht, r⟩ := r1
    refine ⟨t, ws, rfl, .inr (c1.eK ▸ p1.rin.lst ht), ?_⟩
    refine hr c1 ck.2 (Fin.step f1 fun ds vs R2 H2 e2 p2 r2 f2 => ?_)
    exact Fin.ok f2 p2.rin (rVs_app (reps_rVs (Reps.ext p2.ex _ _ _ r)) r2)
  · obtain ⟨t, ws, rfl, ht, r⟩ := r1
    refine ⟨t, ws, rfl, .inl (c1.eK ▸ p1.rin.tup ht), ?_⟩
    refine hr c1 ck.2 (Fin.step f1 fun ds vs R2 H2 e2 p2 r2 f2 => ?_)
    exact Fin.ok f2 p2.rin (rVs_app (reps_rVs (Reps.ext p2.ex _ _ _ r)) r2)
  · exact f1.elim
theorem ak_nil : SK C Γ cn fn [] := fun cd ck f => by rw [evKs] at f; exact f.ok cd.rin .nil
theorem ak_cons {es : List (E × E)} (ha : SE C Γ cn fn a) (hb : SE C Γ cn fn b) (hr : SK C Γ cn fn es) : SK C Γ cn fn ((a, b) :: es) := by
  intro X W σ R H ρ Q cd ck f
  simp only [E.chkk, Bool.and_eq_true] at ck
  rw [evKs] at f
  refine ha cd ck.1.1 (Fin.step f fun dx v R1 H1 e1 p1 r1 f1 => ?_)
  refine hb (cd.after p1) ck.1.2 (Fin.step f1 fun dy u R2 H2 e2 p2 r2 f2 => ?_)
  refine hr ((cd.after p1).after p2) ck.2 (Fin.step f2 fun ds vs R3 H3 e3 p3 r3 f3 => ?_)
  exact Fin.ok f3 p3.rin (.cons ⟨⟨_, Rep.ext p3.ex _ _ _ (Rep.ext p2.ex _ _ _ r1)⟩, Rep.ext p3.ex _ _ _ r2⟩ r3)
theorem ao_none : SO C Γ cn fn none := fun cd ck f => WP.of po_none (by rw [evO] at f; exact f.ok cd.rin rfl)
theorem ao_some (ha : SE C Γ cn fn a) : SO C Γ cn fn (some a) := by
  intro X W σ R H ρ Q cd ck f
  rw [E.chko] at ck
  rw [evO] at f
  refine WP.of (po_some (pe_we _)) ?_
  refine ha cd ck ?_
  cases ea : evE C Γ a ρ with
  | ok d =>
    obtain ⟨d, k⟩ := d
    rw [ea] at f
    intro v R' H' p r
    cases d with
    | int i => cases r; exact ⟨i, rfl, f _ R' H' p rfl⟩
    | _ => exact f.elim
  | exc q z => rw [ea] at f; exact f
  | fail => rw [ea] at f; exact f.elim

/-! ### displays -/
theorem rVs_len {R : RE} : ∀ {xs : List DL} {vs : List V}, rVs R xs vs → xs.length = vs.length
  | [], _, h => by cases h; rfl
  | x :: xs, _, h => by
    cases h with
    | cons r t => rw [List.length_cons, List.length_cons, rVs_len t]
theorem s_tup {as : List (Option Pos × E)} {x1 : Nat} {p : Pos} (h : SAs C Γ cn fn as) : SE C Γ cn fn (.tup as x1 p) := by
  intro X W σ R H ρ Q cd ck f
  rw [E.chk] at ck
  rw [evE] at f
  refine WE.of (pe_tup (pa_wa _)) ?_
  refine h cd ck (Fin.step f fun xs vs R1 H1 e1 p1 r1 f1 => ?_)
  split at f1
  · rename_i hl
    exact ⟨by rw [← rVs_len r1]; exact hl, fun q n => f1.good.newT p1.rin n (rVs_max p1.rin.inn r1 (le_pr_upL _))⟩
  · exact f1.elim
theorem s_lst {as : List (Option Pos × E)} {p : Pos} (h : SAs C Γ cn fn as) : SE C Γ cn fn (.lst as p) := by
  intro X W σ R H ρ Q cd ck f
  rw [E.chk] at ck
  rw [evE] at f
  refine WE.of (pe_lst (pa_wa _)) ?_
  refine h cd ck (Fin.step f fun xs vs R1 H1 e1 p1 r1 f1 => ?_)
  split at f1
  · rename_i hl
    exact ⟨by rw [← rVs_len r1]; exact hl, fun q n => f1.good.newL p1.rin n (rVs_max p1.rin.inn r1 (le_pr_upL _))⟩
  · exact f1.elim
theorem Good.newDT {R : RE} {H : Hp} {Q : VK} {k : Nat} {p : Addr} (g : Good R H (.dct true [], k) Q) (x : RIn R H) (n : H p = none) : Q (.ref p) (upd H p (.dT [])) :=
  g _ _ _ (.new x k n) ⟨p, [], rfl, [], R.lay_hp k p _, rfl, rfl, rfl⟩
theorem s_dic0 {t : Bool} {p : Pos} : SE C Γ cn fn (.dic0 t p) := by
  intro X W σ R H ρ Q cd ck f
  rw [evE] at f
  cases t with
  | true => exact WE.of pe_dnewT fun q n => f.good.newDT cd.rin n
  | false => exact WE.of pe_dnewK fun q n => Good.newD (ks := []) (ws := []) f.good cd.rin n rfl ⟨rfl, rfl⟩
theorem pps_py {X : Cx} {pos : Pos} : ∀ (es : List (E × E)), PPs X pos (E.pyk es) (E.pyv es) (trsOf X es)
  | [] => pps_nil
  | (k, v) :: es => pps_cons (pe_we _) (pe_we _) (pps_py es)
theorem pyk_len : ∀ (es : List (E × E)), (E.pyk es).length = es.length ∧ (E.pyv es).length = es.length ∧ (E.pyk es).all (·.isSome) = true
  | [] => ⟨rfl, rfl, rfl⟩
  | (k, v) :: es => by
    obtain ⟨h1, h2, h3⟩ := pyk_len es
    refine ⟨by rw [E.pyk, List.length_cons, List.length_cons, h1], by rw [E.pyv, List.length_cons, List.length_cons, h2], ?_⟩
    rw [E.pyk, List.all_cons, h3]; rfl
/-- what is known besides D -/
structure PostD (R : RE) (H : Hp) (D : Addr) (R' : RE) (H' : Hp) : Prop where
  ex : REx R R'
  rin : RIn R' H'
  same : Same H H'
  fresh : ∀ a u, R'.G a = some u → R.G a = some u ∨ (H a = none ∧ a ≠ D)
  freshF : ∀ a u, R'.F a = some u → R.F a = some u ∨ H a = none
  new : H D = none
  gD : R.G D = none
  scr : ∀ a ns, R.S a ns → ∀ o, SqL R.K (upd H' D o) a (ns.map V.int)
theorem PostD.start {R : RE} {H : Hp} {D : Addr} {o : HO} (x : RIn R H) (n : H D = none) : PostD R H D R (upd H D o) :=
  ⟨.refl R, x.same fun b u e => upd_keeps n b u e, fun b u e => upd_keeps n b u e, fun _ _ h => .inl h, fun _ _ h => .inl h, n, x.gnone n, fun a ns h o' => by
    rw [upd_upd]
    exact Same.seq (fun b u e => upd_keeps n b u e) (x.scr a ns h)⟩
theorem PostD.no {R R' : RE} {H H' : Hp} {D : Addr} (p : PostD R H D R' H') : R'.G D = none := by
  cases e : R'.G D with
  | none => rfl
  | some u =>
    rcases p.fresh D u e with z | z
    · rw [p.gD] at z; cases z
    · exact absurd rfl z.2
theorem PostD.step {R R1 R2 : RE} {H H1 H2 : Hp} {D : Addr} {o : HO} (p : PostD R H D R1 H1) (hD : H1 D = some o) (q : Post R1 H1 R2 H2) : PostD R H D R2 H2 :=
  ⟨p.ex.trans q.ex, q.rin, p.same.trans q.same, fun a u e => (q.fresh a u e).elim (p.fresh a u) fun n => .inr ⟨p.same.free n, fun z => by rw [z, hD] at n; cases n⟩, fun a u e => (q.freshF a u e).elim (p.freshF a u) fun n => .inr (p.same.free n), p.new, p.gD, fun a ns h o' =>
    Same.seq (fun b u e => by
      by_cases hb : b = D
      · subst hb; rw [upd_same] at e ⊢; exact e
      · rw [upd_ne hb] at e ⊢; exact q.same b u e) (p.scr a ns h o')⟩
theorem PostD.write {R R1 : RE} {H H1 : Hp} {D : Addr} {o : HO} (p : PostD R H D R1 H1) : PostD R H D R1 (upd H1 D o) :=
  ⟨p.ex, ⟨p.rin.inn, fun a u e => by
    have ne : a ≠ D := fun z => by rw [z, p.no] at e; cases e
    rcases p.rin.sub a u e with h | ⟨ob, h, i⟩
    · exact .inl (by rw [upd_ne ne]; exact h)
    · exact .inr ⟨ob, by rw [upd_ne ne]; exact h, i⟩, fun a ns h => by rw [p.ex.K]; exact p.scr a ns (p.ex.S' a ns h) o⟩, fun b u e => by
    have ne : b ≠ D := fun z => by rw [z, p.new] at e; cases e
    rw [upd_ne ne]; exact p.same b u e, p.fresh, p.freshF, p.new, p.gD, fun a ns h o' => by rw [upd_upd]; exact p.scr a ns h o'⟩
theorem PostD.close {R R1 : RE} {H H1 : Hp} {D : Addr} {o : HO} (p : PostD R H D R1 H1) (k : Nat) (hD : H1 D = some o) : Post R H (R1.lay k D o) H1 ∧ REx R1 (R1.lay k D o) := by
  have fD : R1.F D = none := by
    cases e : R1.F D with
    | none => rfl
    | some u =>
      have := p.rin.inn D u e
      rw [p.no] at this; cases this
  have ex : REx R1 (R1.lay k D o) := by
    cases k with
    | zero => exact ⟨rfl, rfl, upd_keeps fD, upd_keeps p.no, fun _ _ h => h, fun _ _ h => h, fun _ _ h => h⟩
    | succ k => exact ⟨rfl, rfl, fun _ _ h => h, upd_keeps p.no, fun _ _ h => h, fun _ _ h => h, fun _ _ h => h⟩
  refine ⟨⟨p.ex.trans ex, ⟨?_, fun b u e => ?_, fun b ns e => ?_⟩, p.same, fun b u e => ?_, fun b u e => ?_⟩, ex⟩
  · intro b u e
    cases k with
    | zero =>
      by_cases hb : b = D
      · subst hb
        rw [show (R1.lay 0 b o).F = upd R1.F b o from rfl, upd_same] at e
        rw [show (R1.lay 0 b o).G = upd R1.G b o from rfl, upd_same]; exact e
      · rw [show (R1.lay 0 D o).F = upd R1.F D o from rfl, upd_ne hb] at e
        rw [show (R1.lay 0 D o).G = upd R1.G D o from rfl, upd_ne hb]; exact p.rin.inn b u e
    | succ k => exact upd_keeps p.no b u (p.rin.inn b u e)
  · have e' : upd R1.G D o b = some u := by cases k <;> exact e
    by_cases hb : b = D
    · subst hb
      rw [upd_same] at e'
      cases e'
      exact .inl hD
    · rw [upd_ne hb] at e'
      exact p.rin.sub b u e'
  · have e' : R1.S b ns := by cases k <;> exact e
    rw [R1.lay_K]
    exact p.rin.scr b ns e'
  · have e' : upd R1.G D o b = some u := by cases k <;> exact e
    by_cases hb : b = D
    · exact .inr (by rw [hb]; exact p.new)
    · rw [upd_ne hb] at e'
      exact (p.fresh b u e').imp_right (·.1)
  · by_cases hb : b = D
    · exact .inr (by rw [hb]; exact p.new)
    · cases k with
      | zero =>
        have e' : upd R1.F D o b = some u := e
        rw [upd_ne hb] at e'
        exact p.freshF b u e'
      | succ k => exact p.freshF b u e
theorem valV_putK_len (kvs : List (Key × V)) (more : List (Key × V)) : (mergeK kvs more).length ≤ kvs.length + more.length := length_mergeK more kvs
/-- the pairs of a display -/
theorem kvs_of {R : RE} {k : Nat} : ∀ {ps : List (D × DL)} {vs : List (V × V)}, rKVs R ps vs → (ps.all fun p => p.1.key.isSome) = true → (∀ p ∈ ps, p.2.2 ≤ k) → R.In →
    ∃ qs : List (Key × V), vs = qs.map (fun kv => (kV kv.1, kv.2)) ∧ qs.length = ps.length ∧ Paired (fun (p : D × D) (q : Key × V) => p.1.key = some q.1 ∧ Rep R k p.2 q.2) (ps.map fun p => (p.1, p.2.1)) qs
  | [], _, h, _, _, _ => by cases h; exact ⟨[], rfl, rfl, .nil⟩
  | p :: ps, _, h, ok, le, inn => by
    cases h with
    | cons r t =>
      rw [List.all_cons, Bool.and_eq_true] at ok
      obtain ⟨qs, e1, e2, e3⟩ := kvs_of t ok.2 (fun q hq => le q (List.mem_cons_of_mem _ hq)) inn
      obtain ⟨q, hq⟩ := Option.isSome_iff_exists.mp ok.1
      rename_i v _
      obtain ⟨⟨kk, r1⟩, r2⟩ := r
      have := key_V hq r1
      refine ⟨(q, v.2) :: qs, ?_, by rw [List.length_cons, List.length_cons, e2], .cons ⟨hq, Rep.up inn _ _ _ _ (le p List.mem_cons_self) r2⟩ e3⟩
      rw [List.map_cons, e1, ← this]
theorem litD_go : ∀ (ps : List (D × DL)) (m0 : List (D × D)) (k0 : Nat) (m : List (D × D)) (k : Nat), ps.foldl (fun acc p => match acc with
    | some (m, k) => if p.1.key.isSome then some (dput m p.1 p.2.1, max k p.2.2) else none
    | none => none) (some (m0, k0)) = some (m, k) →
    (ps.all fun p => p.1.key.isSome) = true ∧ k0 ≤ k ∧ (∀ p ∈ ps, p.2.2 ≤ k) ∧ m = (ps.map fun p => (p.1, p.2.1)).foldl (fun m p => dput m p.1 p.2) m0
  | [], m0, k0, m, k, h => by cases h; exact ⟨rfl, Nat.le_refl _, by simp, rfl⟩
  | p :: ps, m0, k0, m, k, h => by
    rw [List.foldl_cons] at h
    by_cases hk : p.1.key.isSome = true
    · simp only [hk, if_true] at h
      obtain ⟨h1, h2, h3, h4⟩ := litD_go ps _ _ m k h
      refine ⟨by rw [List.all_cons, hk, h1]; rfl, by omega, fun q hq => ?_, h4⟩
      rcases List.mem_cons.mp hq with rfl | hq
      · omega
      · exact h3 q hq
    · simp only [hk] at h
      have : ∀ l : List (D × DL), l.foldl (fun acc p => match acc with
        | some (m, k) => if p.1.key.isSome then some (dput m p.1 p.2.1, max k p.2.2) else none
        | none => none) (none : Option (List (D × D) × Nat)) = none := by
        intro l
        induction l with
        | nil => rfl
        | cons _ _ ih => rw [List.foldl_cons]; exact ih
      have h : ps.foldl (fun acc p => match acc with
        | some (m, k) => if p.1.key.isSome then some (dput m p.1 p.2.1, max k p.2.2) else none
        | none => none) (none : Option (List (D × D) × Nat)) = some (m, k) := h
      rw [this] at h
      cases h
theorem s_dic {kvs : List (E × E)} {p : Pos} (h : SK C Γ cn fn kvs) : SE C Γ cn fn (.dic kvs p) := by
  intro X W σ R H ρ Q cd ck f
  simp only [E.chk, Bool.and_eq_true, decide_eq_true_eq, Bool.not_eq_true'] at ck
  obtain ⟨l1, l2, l3⟩ := pyk_len kvs
  refine WE.of (pe_disp (pps_py kvs) l3 (by rw [l1, l2]) (by
    intro z
    cases kvs with
    | nil => simp at ck
    | cons y ys => obtain ⟨y1, y2⟩ := y; simp [E.pyk] at z) (by rw [l1]; exact ck.2)) ?_
  intro d0 n
  have p0 : PostD R H d0 R (upd H d0 (.dK [])) := .start cd.rin n
  have c0 : Cd X W C Γ cn fn σ R (upd H d0 (.dK [])) ρ := ⟨cd.kn, cd.tk, cd.rel, p0.rin, cd.eK, cd.ew⟩
  have hD : upd H d0 (.dK []) d0 = some (.dK []) := upd_same
  rw [evE] at f
  refine h c0 ck.1.1 ?_
  cases ek : evKs C Γ kvs ρ with
  | ok ps =>
    rw [ek] at f
    intro vs R1 H1 q r
    have p1 := p0.step hD q
    have f : Fin rV X W σ R H (match litD ps with | some (m, k) => .ok (.dct false m, upL k) | none => .fail) Q := f
    split at f
    · rename_i m k e
      obtain ⟨a1, a2, a3, a4⟩ := litD_go ps [] 0 m k e
      obtain ⟨qs, b1, b2, b3⟩ := kvs_of r a1 a3 p1.rin.inn
      obtain ⟨ls, ws, l, e2, g2⟩ := repK_merge (kvs := []) (ks := []) (vs := []) b3 ⟨rfl, rfl⟩ rfl
      refine ⟨q.same _ _ hD, qs, b1, ?_, ?_⟩
      · rw [b2]
        have : ∀ {es : List (E × E)} {ps : List (D × DL)}, evKs C Γ es ρ = .ok ps → ps.length = es.length := by
          intro es
          induction es with
          | nil => intro ps h; rw [evKs] at h; cases h; rfl
          | cons e es ih =>
            intro ps h
            obtain ⟨x, y⟩ := e
            rw [evKs] at h
            cases e1 : evE C Γ x ρ with
            | ok d1 =>
              rw [e1] at h
              cases e2 : evE C Γ y ρ with
              | ok d2 =>
                rw [e2] at h
                cases e3 : evKs C Γ es ρ with
                | ok d3 =>
                  rw [e3] at h
                  cases h
                  rw [List.length_cons, List.length_cons, ih e3]
                | exc _ _ => rw [e3] at h; cases h
                | fail => rw [e3] at h; cases h
              | exc _ _ => rw [e2] at h; cases h
              | fail => rw [e2] at h; cases h
            | exc _ _ => rw [e1] at h; cases h
            | fail => rw [e1] at h; cases h
        rw [this ek]
        exact ck.2
      · have e2' : mergeK [] qs = ls.zip ws := e2
        rw [e2']
        have hD2 : upd H1 d0 (.dK (ls.zip ws)) d0 = some (.dK (ls.zip ws)) := upd_same
        obtain ⟨pc, px⟩ := (p1.write (o := .dK (ls.zip ws))).close (upL k) hD2
        refine f.good _ _ _ pc ?_
        refine ⟨d0, ws, rfl, ls, .inl (RE.lay_hp _ _ _ _), l, ?_⟩
        rw [a4]
        exact (RepK.up p1.rin.inn _ _ _ _ _ (le_pr_upL _) g2).ext px
    · exact f.elim
  | exc z a =>
    rw [ek] at f
    intro Cc m R' H' dd v q r e
    refine f Cc m R' H' dd v ?_ r e
    have p1 := p0.step hD q
    exact ⟨p1.ex, p1.rin, p1.same, fun a u e => (p1.fresh a u e).imp_right (·.1), p1.freshF⟩
  | fail => rw [ek] at f; exact f.elim
end
end Ev
set_option Elab.async false
set_option linter.all false
set_option maxRecDepth 100000
set_option maxHeartbeats 1000000
/-! Ev16: subscripts, calls, iterators, comprehensions; all expressions. -/
namespace Ev
open PySem PySem.Spec PyProof.Rows L2
section
variable {C : Nat → D} {Γ : Fns} {cn fn : Nat → Str}
variable {a b c : E}
theorem s_sub {p : Pos} (ha : SE C Γ cn fn a) (hb : SE C Γ cn fn b) : SE C Γ cn fn (.sub a b p) := by
  intro X W σ R H ρ Q cd ck f
  simp only [E.chk, Bool.and_eq_true] at ck
  rw [evE] at f
  refine WE.of (pe_ix ixR_WI (pe_we _) (pe_we _) (ix_py _)) ?_
  refine ha cd ck.1 (Fin.step f fun dx v R1 H1 e1 p1 r1 f1 => ?_)
  refine hb (cd.after p1) ck.2 (Fin.step f1 fun dy u R2 H2 e2 p2 r2 f2 => ?_)
  have c2 := (cd.after p1).after p2
  obtain ⟨r, er, f3⟩ := f2.no (idx_nox _ _)
  exact idx_ok (by have := c2.un; omega) p2.rin c2.eK c2.ew er (Rep.ext p2.ex _ _ _ r1) r2 f3.good
theorem s_slc {lo hi : Option E} {p2 p : Pos} (ha : SE C Γ cn fn a) (hl : SO C Γ cn fn lo) (hh : SO C Γ cn fn hi) : SE C Γ cn fn (.slc a lo hi p2 p) := by
  intro X W σ R H ρ Q cd ck f
  simp only [E.chk, Bool.and_eq_true] at ck
  rw [evE] at f
  refine WE.of (pe_slice slR_WS (pe_we _) (po_wp _) (po_wp _)) ?_
  refine ha cd ck.1.1 (Fin.step f fun dx v R1 H1 e1 p1 r1 f1 => ?_)
  have c1 := cd.after p1
  refine hl c1 ck.1.2 (Fin.step f1 fun l l' R2 H2 e2 p2 r2 f2 => ?_)
  have c2 := c1.after p2
  cases r2
  refine hh c2 ck.2 (Fin.step f2 fun h h' R3 H3 e3 p3 r3 f3 => ?_)
  have c3 := c2.after p3
  cases r3
  obtain ⟨r, er, f4⟩ := f3.no (slc_nox _ _ _)
  exact slc_ok p3.rin c3.eK er (Rep.ext p3.ex _ _ _ (Rep.ext p2.ex _ _ _ r1)) f4.good
theorem s_rev {j : Nat} {p0 p1 p2 p : Pos} (ha : SE C Γ cn fn a) : SE C Γ cn fn (.rev a j p0 p1 p2 p) := by
  intro X W σ R H ρ Q cd ck f
  rw [E.chk] at ck
  rw [evE] at f
  refine WE.of (pe_revL (pe_we _)) ?_
  refine ha cd ck (Fin.step f fun dx v R1 H1 e1 p1 r1 f1 => ?_)
  split at f1
  · obtain ⟨t, vs, rfl, ht, r⟩ := r1
    exact ⟨t, vs, rfl, (cd.after p1).eK ▸ p1.rin.lst ht, fun q n => f1.good.newL p1.rin n (Reps.upL p1.rin.inn (Reps.reverse r))⟩
  · exact f1.elim
theorem s_call {n : Nat} {x : Str} {as : List E} {p1 p : Pos} (h : SA C Γ cn fn as) : SE C Γ cn fn (.call n x as p1 p) := by
  intro X W σ R H ρ Q cd ck f
  simp only [E.chk, Bool.and_eq_true, decide_eq_true_eq] at ck
  obtain ⟨g1, g2⟩ := gl_of ck.1.1
  obtain ⟨k, hr, hF⟩ := cd.kn.room
  rw [evE] at f
  obtain ⟨fa, e1, e2, F⟩ := hF n
  rw [← ck.1.2] at e1
  cases as with
  | nil =>
    rw [evEs] at f
    exact pe_callF0 F hr cd.tk g1 g2 e1 e2 (spD_of cd.eK cd.ew cd.rin .nil f)
  | cons e es =>
    refine pe_callF F hr cd.tk g1 g2 e1 e2 ?_
    refine h cd ck.2 (Fin.step f fun xs vs R1 H1 _ p1 r1 f1 => ?_)
    exact spD_of (cd.after p1).eK (cd.after p1).ew p1.rin r1 f1
theorem boot_fn : ∀ b : Blt, bootBuiltins b.nm = some b.fn := by
  intro b
  cases b <;> decide +kernel

theorem nm_name : ∀ b : Blt, b.nm ≠ "__name__" := by
  intro b
  cases b <;> decide +kernel
theorem s_blt {bt : Blt} {x : Str} {as : List E} {p1 p : Pos} (h : SA C Γ cn fn as) : SE C Γ cn fn (.blt bt x as p1 p) := by
  intro X W σ R H ρ Q cd ck f
  simp only [E.chk, Bool.and_eq_true, decide_eq_true_eq, Bool.not_eq_true'] at ck
  obtain ⟨⟨⟨⟨k1, k2⟩, k3⟩, k4⟩, k5⟩ := ck
  obtain ⟨g1, g2⟩ := gl_of k1
  rw [evE] at f
  have hm : X.mg x = none := by rw [k2]; exact cd.kn.blt bt
  have hv : bootBuiltins x = some bt.fn := by rw [k2]; exact boot_fn bt
  have hn : x ≠ "__name__" := by rw [k2]; exact nm_name bt
  have m : WA X (E.pys as) σ H (fun vs H1 => WC X bt.fn vs H1 Q) := by
    refine h cd k3 (Fin.step f fun xs vs R1 H1 _ p1 r1 f1 => ?_)
    obtain ⟨r, er, f2⟩ := f1.no (blt_nox _ _)
    exact blt_ok k5 p1.rin (cd.after p1).eK cd.kn.calm er r1 f2.good
  cases as with
  | nil => cases k4
  | cons e es =>
    have kind : (∃ id, bt.fn = .builtin id) ∨ ∃ T, bt.fn = .type T := by
      cases bt <;> first | exact .inl ⟨_, rfl⟩ | exact .inr ⟨_, rfl⟩
    generalize bt.fn = fv at hv m kind
    intro pins s I
    have go : wpAny (model X.prog X.w) X.A (spliced (backTo p (starEach (e.py :: E.pys es) X.env))) (fun us s₁ => wpAny (model X.prog X.w) X.A (call fv us) (EP X pins σ Q) X.xe s₁) X.xe s :=
      thn (m p pins s I) fun us s1 ⟨vs, H1, I1, r1, q1⟩ => q1 σ pins s1 us I1 r1
    show wpAny (model X.prog X.w) X.A (eval (.Call (.Name x p1) (e.py :: E.pys es) [] p) X.env) (EP X pins σ Q) X.xe s
    rcases kind with ⟨id, rfl⟩ | ⟨T, rfl⟩
    · exact wpAny_Call_Name_kw (ld_blt I g1 hm hv (PyProof.Rows.callWith_builtin1 go (star_py _ _ _) (pa_pys_plain _ _ _)) hn g2)
    · exact wpAny_Call_Name_kw (ld_blt I g1 hm hv (PyProof.Rows.callWith_type1 go (star_py _ _ _) (pa_pys_plain _ _ _)) hn g2)
theorem kit_tup (n : String) (h : kitB n "tuple" = some false) {K : PySem.W.Frag} : PySem.W.kitOne K (.type n) (.type "tuple") = some false := kit_ty h
theorem dic_ty {X : Cx} {R : RE} {H : Hp} (x : RIn R H) (eK : R.K = X.K) {k : Nat} {kvs : List (D × D)} {v : V} (h : Rep R k (.dct false kvs) v) : TyX X.K H v (.type "dict") := by
  obtain ⟨t, vs, rfl, ks, h1, _⟩ := h
  rcases h1 with h1 | ⟨⟨es, n, kd, _⟩, _⟩
  · rcases x.hp k t _ h1 with q | ⟨o, q, _⟩
    · exact .base (.dK q)
    · exact .fDict q
  · exact .kDict (eK ▸ kd.at_) rfl
theorem s_isT {p1 p2 p : Pos} (ha : SE C Γ cn fn a) : SE C Γ cn fn (.isT a p1 p2 p) := by
  intro X W σ R H ρ Q cd ck f
  simp only [E.chk, Bool.and_eq_true] at ck
  obtain ⟨g1, g2⟩ := gl_of ck.1.1
  obtain ⟨h1, h2⟩ := gl_of ck.1.2
  rw [evE] at f
  have pa : PA X [a.py, .Name "tuple" p2] (tCons (WE X a.py) (tCons (tC (.ty "tuple")) tNil)) :=
    pa_cons (pe_we _) (pa_cons (pe_bltn h1 (cd.kn.blt .tuple) (by decide +kernel) rfl) pa_nil) (star_py _ _ _)
  refine WE.of (pe_callB call_isi g1 (cd.kn.blt .isTup) PyProof.Rows.boot_isinstance pa (he := star_py _ _ _)) ?_
  refine ha cd ck.2 (Fin.step f fun dx v R1 H1 e1 p1 r1 f1 => ?_)
  have c1 := cd.after p1
  obtain ⟨d, k⟩ := dx
  show ∃ x c t u b, [v, V.ty "tuple"] = [x, c] ∧ _
  have fin : ∀ (t : Value) (b : Bool), TyX X.K H1 v t → PySem.W.kitOne X.K t (.type "tuple") = some b → evBlt .isTup [(d, k)] = .ok (.bl b, 0) → ∃ x c t u b, [v, V.ty "tuple"] = [x, c] ∧ ClsV c u ∧ TyX X.K H1 x t ∧ PySem.W.kitOne X.K t u = some b ∧ Q (.bl b) H1 := fun t b h1 h2 h3 => by
    rw [h3] at f1
    exact ⟨v, .ty "tuple", t, .type "tuple", b, rfl, .ty _, h1, h2, f1.ok p1.rin (show Rep _ _ _ _ from rfl)⟩
  cases d with
  | non => cases r1; exact fin _ false (.base .non) (kit_tup _ (by decide +kernel)) rfl
  | bl y => cases r1; exact fin _ false (.base (.bl y)) (kit_tup _ (by decide +kernel)) rfl
  | int y => cases r1; exact fin _ false (.base (.int y)) (kit_tup _ (by decide +kernel)) rfl
  | str y => cases r1; exact fin _ false (.base (.str y)) (kit_tup _ (by decide +kernel)) rfl
  | tup xs =>
    obtain ⟨t, vs, rfl, ht, r⟩ := r1
    refine fin (.type "tuple") true ?_ (kit_ty (by decide +kernel)) rfl
    rcases ht with ht | ⟨⟨o, its, n, ek, ec, _⟩, _⟩
    · rcases p1.rin.hp k t _ ht with q | ⟨o, q, i⟩
      · exact .base (.tup q)
      · exact i.elim
    · exact .kTuple (c1.eK ▸ ek) ec
  | lst xs =>
    obtain ⟨t, vs, rfl, ht, r⟩ := r1
    exact fin (.type "list") false (.base (.lst (p1.rin.rdl ht))) (kit_tup _ (by decide +kernel)) rfl
  | dct t kvs =>
    cases t with
    | false => exact fin (.type "dict") false (dic_ty p1.rin c1.eK r1) (kit_tup _ (by decide +kernel)) rfl
    | true => exact f1.elim
  | obj n => exact f1.elim
  | scr n => exact f1.elim

/-! ### methods -/
def TyB (X : Cx) (T : String) (x : V) (H : Hp) : Prop := ∀ pins s σ v, Inv X pins σ H s → RelV x v → s.TypeIs v T ∧ ∀ a, v = .ref a → ∃ ob, s.heap.get? a = some ob ∧ ob.dict = none
def WM (X : Cx) (id : String) (x : V) (xs : List V) (H : Hp) (Q : VK) : Prop := ∀ pins s σ v us, Inv X pins σ H s → RelV x v → Vals xs us → wpAny (model X.prog X.w) X.A (call (.builtin id) (v :: us)) (EP X pins σ Q) X.xe s
theorem pe_bmW {X : Cx} {σ : L2.St} {H : Hp} {Q : VK} {o : E} {e : E} {es : List E} {name : Str} {apos cpos : Pos} (hn : o.noCall0 = true) (hl : es.length < 19) (hline : (apos.endLine == cpos.line) = true)
    (h : WE X o.py σ H fun x H1 => ∃ T id, PlainAttrs T ∧ Slot T name id ∧ typeOf (.builtin id) = pure (.type "method_descriptor") ∧ TyB X T x H1 ∧ WA X (E.pys (e :: es)) σ H1 fun xs H2 => WM X id x xs H2 Q) :
    WE X (.Call (.Attribute o.py name apos) (E.pys (e :: es)) [] cpos) σ H Q := by
  intro pins s I
  have few : ((backTo cpos (starEach (E.pys (e :: es)) X.env)).all (fun x => !x.1) && (backToKw cpos (keywordEach [] X.env)).all (fun x => x.1.isSome)
      && decide ((E.pys (e :: es)).length + ([] : List Keyword).length + (if ([] : List Keyword).isEmpty then 0 else 1) < 30)) = true := by
    rw [pa_pys_all, pys_len]
    simp only [Bool.true_and, List.length_cons, List.length_nil, List.isEmpty_nil, if_true, Bool.and_eq_true, decide_eq_true_eq]
    exact ⟨rfl, by omega⟩
  refine wpAny_Call_method_late (base_py hn name X.env) few hline rfl (thn (h pins s I) fun v s1 ⟨x, H1, I1, r1, T, id, pa, slot, hty, ty, q1⟩ => ?_)
  obtain ⟨h1, h2⟩ := ty pins s1 σ v I1 r1
  refine ⟨T, id, pa, slot, hty, h1, h2, ?_⟩
  have hA := q1 cpos pins s1 I1
  rw [E.pys, star_py] at hA ⊢
  refine Calls.callWith_builtin (by show (false || (backTo cpos (starEach (E.pys es) X.env)).any (·.1)) = false; rw [pa_pys_plain] <;> rfl) (Calls.evalArgs_plain ?_)
  exact thn hA fun us s2 ⟨vs, H2, I2, r2, q2⟩ => q2 pins s2 σ v us I2 r1 r2
theorem tyb_dct {X : Cx} {R : RE} {H : Hp} (x : RIn R H) (eK : R.K = X.K) (ew : R.w = X.w) {k : Nat} {t : Bool} {kvs : List (D × D)} {v : V} (h : Rep R k (.dct t kvs) v) : TyB X "dict" v H := by
  intro pins s σ u I ru
  cases t with
  | true =>
    obtain ⟨a, vs, rfl, ks, h1, _⟩ := h
    cases ru
    obtain ⟨q1, q2, _⟩ := isD_at I (a := a) (.inr ⟨_, (x.hp k a _ h1).rd⟩)
    exact ⟨q1, q2⟩
  | false =>
    obtain ⟨a, vs, rfl, ks, h1, _⟩ := h
    cases ru
    rcases h1 with h1 | ⟨⟨es, n, kd, _⟩, _⟩
    · obtain ⟨q1, q2, _⟩ := isD_at I (a := a) (.inl ⟨_, (x.hp k a _ h1).rd⟩)
      exact ⟨q1, q2⟩
    · have kd' : KDict X.K X.w a es n := eK ▸ ew ▸ kd
      refine ⟨kd_type kd' I, fun b e => ?_⟩
      cases e
      exact ⟨_, I.kIn _ _ kd'.at_, rfl⟩
theorem get_ok {X : Cx} {R : RE} {H : Hp} {Q : VK} (hu : X.A.units + 1 < cLine) (x : RIn R H) (eK : R.K = X.K) (ew : R.w = X.w) {t : Bool} {kvs : List (D × D)} {k l : Nat} {d : D} {v u : V} (hv : Rep R k (.dct t kvs) v) (hu' : Rep R l d u) (hk : keyOk t kvs d = true)
    (q : ∀ e w, dget d kvs = some e → Rep R (pr k) e w → Q w H) (q0 : dget d kvs = none → Q .non H) : WM X "dict.get" v [u] H Q := by
  obtain ⟨a, rfl, f⟩ := dct_find (X := X) x eK ew hv hu' hk
  intro pins s σ v0 us I rv rs
  cases rv
  obtain ⟨u0, rfl, ru⟩ := vals1 rs
  have fin : ∀ o : Option V, ORep R (pr k) (dget d kvs) o → Q (o.getD .non) H := fun o h => by
    cases e : dget d kvs with
    | none =>
      rw [e] at h
      cases o with
      | none => exact q0 e
      | some w => exact h.elim
    | some e' =>
      rw [e] at h
      cases o with
      | none => exact h.elim
      | some w => exact q e' w e h
  rcases f with ⟨_, o, dg, orp⟩ | ⟨es, n, z, r, kd, rfl, e1, o, e2, orp⟩
  · exact d_get1 hu I dg ru fun w' s' I' rw' => ⟨_, H, I', rw', fin o orp⟩
  · obtain ⟨tk, rfl⟩ := ru
    refine call_meetsIn PySem.F.slot_dict_get (kd_type kd I) PySem.F.entry_dict_get (PySem.F.args_dict_get_2 _ _) (meets_dict_get (PySem.strKind X.prog X.w) a (PySem.strKind_is X.prog X.w z tk) kd.low) ⟨_, PySem.W.mapOf_K (prog := X.prog) I.kIn kd.at_ kd.lit, ?_⟩
    rw [PySem.W.find_K kd.at_ e1]
    refine ⟨o.getD .non, H, I.tok _, ?_, fin o orp⟩
    cases o with
    | none => cases r with
      | none => exact rfl
      | some u1 => exact e2.elim
    | some w => cases r with
      | none => exact e2.elim
      | some u1 => exact e2
theorem get2_ok {X : Cx} {R : RE} {H : Hp} {Q : VK} (hu : X.A.units + 1 < cLine) (x : RIn R H) (eK : R.K = X.K) (ew : R.w = X.w) {t : Bool} {kvs : List (D × D)} {k l : Nat} {d : D} {v u z0 : V} (hv : Rep R k (.dct t kvs) v) (hu' : Rep R l d u) (hk : keyOk t kvs d = true)
    (q : ∀ e w, dget d kvs = some e → Rep R (pr k) e w → Q w H) (q0 : dget d kvs = none → Q z0 H) : WM X "dict.get" v [u, z0] H Q := by
  obtain ⟨a, rfl, f⟩ := dct_find (X := X) x eK ew hv hu' hk
  intro pins s σ v0 us I rv rs
  cases rv
  obtain ⟨u0, z1, rfl, ru, rz⟩ := vals2 rs
  have fin : ∀ o : Option V, ORep R (pr k) (dget d kvs) o → Q (o.getD z0) H := fun o h => by
    cases e : dget d kvs with
    | none =>
      rw [e] at h
      cases o with
      | none => exact q0 e
      | some w => exact h.elim
    | some e' =>
      rw [e] at h
      cases o with
      | none => exact h.elim
      | some w => exact q e' w e h
  rcases f with ⟨_, o, dg, orp⟩ | ⟨es, n, z, r, kd, rfl, e1, o, e2, orp⟩
  · exact d_get2 hu I dg ru rz fun w' s' I' rw' => ⟨_, H, I', rw', fin o orp⟩
  · obtain ⟨tk, rfl⟩ := ru
    refine call_meetsIn PySem.F.slot_dict_get (kd_type kd I) PySem.F.entry_dict_get (PySem.F.args_dict_get_3 _ _ _) (meets_dict_get_default (PySem.strKind X.prog X.w) a (PySem.strKind_is X.prog X.w z tk) kd.low z1) ⟨_, PySem.W.mapOf_K (prog := X.prog) I.kIn kd.at_ kd.lit, ?_⟩
    rw [PySem.W.find_K kd.at_ e1]
    refine ⟨o.getD z0, H, I.tok _, ?_, fin o orp⟩
    cases o with
    | none => cases r with
      | none => exact rz
      | some u1 => exact e2.elim
    | some w => cases r with
      | none => exact e2.elim
      | some u1 => exact e2
theorem s_mth {m : Mth} {x : Str} {o : E} {as : List E} {p1 p : Pos} (ho : SE C Γ cn fn o) (h : SA C Γ cn fn as) : SE C Γ cn fn (.mth m x o as p1 p) := by
  intro X W σ R H ρ Q cd ck f
  simp only [E.chk, Bool.and_eq_true, decide_eq_true_eq, Bool.not_eq_true'] at ck
  obtain ⟨⟨⟨⟨⟨⟨k1, k2⟩, k3⟩, k4⟩, k5⟩, k6⟩, k7⟩ := ck
  rw [evE] at f
  cases as with
  | nil => cases k5
  | cons e es =>
    refine pe_bmW (es := es) k3 (by rw [List.length_cons] at k6; omega) k7 ?_
    refine ho cd k2 (Fin.step f fun dx v R1 H1 e1 p1 r1 f1 => ?_)
    have c1 := cd.after p1
    cases em : mthRcv m dx with
    | false => rw [em] at f1; exact f1.elim
    | true =>
      rw [em] at f1
      have f1 : Fin rV X W σ R1 H1 (evEs C Γ (e :: es) ρ >>= fun xs => evMth m dx xs) Q := f1
      unfold mthRcv at em
      split at em
      · rename_i t kvs k _
        have hu : X.A.units + 1 < cLine := by have := cd.un; omega
        refine ⟨"dict", "dict.get", PySem.F.plainAttrs_dict, by rw [k1]; exact PySem.F.slot_dict_get, PySem.F.type_dict_get, tyb_dct p1.rin c1.eK c1.ew r1, ?_⟩
        refine h c1 k4 (Fin.step f1 fun xs vs R2 H2 e2 p2 r2 f2 => ?_)
        have c2 := c1.after p2
        obtain ⟨r, er, f3⟩ := f2.no (mth_nox _ _ _)
        have r1' : Rep R2 k (.dct t kvs) v := Rep.ext p2.ex _ _ _ r1
        unfold evMth at er
        split at er
        · rename_i q2; cases q2
          cases r2 with | cons h1 h2 => cases h2 with | nil =>
          split at er
          · rename_i hk
            refine get_ok hu p2.rin c2.eK c2.ew r1' h1 hk (fun e w q rw' => ?_) (fun q => ?_)
            · rw [q] at er; cases er
              exact f3.ok p2.rin (scal_rep rw')
            · rw [q] at er; cases er
              exact f3.ok p2.rin (show Rep _ _ _ _ from rfl)
          · cases er
        · rename_i q2; cases q2
          cases r2 with | cons h1 h2 => cases h2 with | cons h2 h3 => cases h3 with | nil =>
          split at er
          · rename_i hk
            refine get2_ok hu p2.rin c2.eK c2.ew r1' h1 hk (fun e w q rw' => ?_) (fun q => ?_)
            · rw [q] at er; cases er
              exact f3.ok p2.rin (scal_rep rw')
            · rw [q] at er; cases er
              exact f3.ok p2.rin h2
          · cases er
        · rename_i q1 _; cases q1
        · cases er
      · cases em
/-- a constant tuple's index -/
theorem findIdx_some {zs : List Str} {z : Str} {j : Nat} (h : zs.findIdx? (fun y => decide (y = z)) = some j) : zs[j]? = some z ∧ ∀ m, m < j → zs[m]? ≠ some z := by
  obtain ⟨hj, e, n⟩ := List.findIdx?_eq_some_iff_getElem.mp h
  refine ⟨?_, fun m hm e2 => ?_⟩
  · rw [List.getElem?_eq_getElem hj]
    exact congrArg some (of_decide_eq_true e)
  · obtain ⟨h1, h2⟩ := List.getElem?_eq_some_iff.mp e2
    have := n m hm
    simp [h2] at this
theorem reps_strs0 {R : RE} {k : Nat} {ds : List D} {zs : List Str} {vs : List V} (e : asStrs ds = some zs) (h : Reps R k ds vs) : vs = zs.map V.str := by
  rw [asStrs_of e] at h
  exact h.strs
def noH : Hp := fun _ => none
theorem s_cix {n : Nat} {x : Str} {p0 p1 p : Pos} (ha : SE C Γ cn fn a) : SE C Γ cn fn (.cix n x a p0 p1 p) := by
  intro X W σ R H ρ Q cd ck f
  simp only [E.chk, Bool.and_eq_true, decide_eq_true_eq] at ck
  obtain ⟨⟨⟨k1, k2⟩, k3⟩, k4⟩ := ck
  obtain ⟨g1, g2⟩ := gl_of k1
  obtain ⟨u, v, e, r, dn, rp⟩ := cd.kn.cst n
  rw [← k2] at e
  rw [evE] at f
  cases eok : cixOk (C n) with
  | false => rw [eok] at f; exact f.elim
  | true =>
  rw [eok] at f
  have f : Fin rV X W σ R H (evE C Γ a ρ >>= fun y => evMth .index (C n, 0) [y]) Q := f
  have key := pe_bmW (X := X) (σ := σ) (H := H) (Q := Q) (o := .cst n x p0) (e := a) (es := []) (name := "index") (apos := p1) (cpos := p) rfl (by decide) k4
  refine key ?_
  refine WE.of (pe_glob g1 e r g2) ?_
  show ∃ T id, _
  cases ec : C n with
  | tup ds =>
    cases es : asStrs ds with
    | some zs =>
      -- the written tuple
      have h0 := rp { R with F := noH, G := noH } cd.eK cd.ew
      rw [ec] at h0
      obtain ⟨t, vs, rfl, ht, rr⟩ := h0
      obtain ⟨⟨o, its, nn, q1, q2, q3, q4, q5⟩, _⟩ : KTup R.K t vs ∧ intHd ds = false := by
        rcases ht with ht | ht
        · cases ht
        · exact ht
      obtain ⟨o', q1', q6⟩ := dn t rfl
      have evs := reps_strs0 es rr
      subst evs
      have hK : SqT X.K H t (zs.map V.str) := .inr ⟨o, its, nn, cd.eK ▸ q1, q2, q3, q4, q5⟩
      refine ⟨"tuple", "tuple.index", PySem.F.plainAttrs_tuple, PySem.F.slot_tuple_index, PySem.F.type_tuple_index, ?_, ?_⟩
      · intro pins s σ' w I rw'
        cases rw'
        have q1x : X.K.lookup t = some o := cd.eK ▸ q1
        rw [q1x] at q1'
        cases q1'
        exact ⟨⟨o, I.kIn t o q1x, q2⟩, fun b eb => by cases eb; exact ⟨o, I.kIn _ o q1x, q6⟩⟩
      · show WA X (E.pys [a]) σ H _
        refine WA.of (pa_cons (pe_we _) pa_nil (star_py _ _ _)) ?_
        refine ha cd k3 (Fin.step f fun dx v R1 H1 e1 p1 r1 f1 => ?_)
        obtain ⟨rr2, er, f2⟩ := f1.no (mth_nox _ _ _)
        rw [ec] at er
        unfold evMth at er
        split at er
        · rename_i q1 _ _; cases q1
        · rename_i q1 _ _; cases q1
        · rename_i q0 q1 q2; cases q1; cases q2
          cases r1
          rw [es] at er
          have er : (match zs.findIdx? (fun y => decide (y = _)) with | some j => Ev.R.ok (D.int j, 0) | none => .fail) = .ok rr2 := er
          split at er
          · rename_i j ej
            cases er
            obtain ⟨j1, j2⟩ := findIdx_some ej
            intro pins s σ' w us I rv rs
            have hK1 : SqT X.K H1 t (zs.map V.str) := .inr ⟨o, its, nn, cd.eK ▸ q1, ‹_›, q3, q4, q5⟩
            exact mt_tup_index pins s σ' H1 _ _ w us Q I rv rs ⟨t, zs, _, j, rfl, rfl, hK1, j1, j2, f2.ok p1.rin (show Rep _ _ _ _ from rfl)⟩
          · cases er
        · cases er
    | none => rw [ec] at eok; simp [cixOk, es] at eok
  | _ => rw [ec] at eok; cases eok
end
end Ev
set_option Elab.async false
set_option linter.all false
set_option maxRecDepth 100000
set_option maxHeartbeats 1000000
/-! Ev17: iterators, comprehensions; all expressions. -/
namespace Ev
open PySem PySem.Spec PyProof.Rows L2
section
variable {C : Nat → D} {Γ : Fns} {cn fn : Nat → Str}
variable {a b c : E}

/-! ### iterators -/
theorem pi_src {X : Cx} {tg e : Expr} {te : TE} (he : PE X e te) : PI X tg e (fun σ H Q => te σ H fun v H1 => (∃ t xs, v = .ref t ∧ SqL X.K H1 t xs ∧ Q (Itl X.K t) H1) ∨ (∃ t xs, v = .ref t ∧ SqT X.K H1 t xs ∧ Q (Itt X.K t) H1) ∨ ∃ x, v = .str x ∧ Q (Its x) H1) := by
  refine ⟨fun pins s σ H R I h => ?_⟩
  refine thn (he.run pins s σ H _ I h) fun v s1 ⟨x, H1, I1, r1, q1⟩ => ?_
  have pure' : PE { X with xe := X.xe } e te := he
  rcases q1 with ⟨t, xs, rfl, hq, q⟩ | ⟨t, xs, rfl, hq, q⟩ | ⟨z, rfl, q⟩
  · cases r1
    obtain ⟨its, rv, p, hz⟩ := I1.list hq
    refine wpAny_pyIter_list p.isList ?_
    refine ⟨s1.heap.objs.size, [s1.heap.objs.size], _, _, H1, rfl, I1.kept (t' := s1.toks) fun b o e => Heap.get?_push_of_some _ e, turn_list t _, ⟨_, Heap.get?_push_size _ rfl, rfl, rfl⟩, fun b hb => ?_, q⟩
    have e : b = s1.heap.objs.size := by simpa using hb
    subst e
    exact I1.fpOk (Nat.le_refl _) (I1.hok.fresh (Nat.le_refl _))
  · cases r1
    obtain ⟨its, rv, p, hz⟩ := I1.tuple hq
    refine wpAny_pyIter_tuple (show s1.heap.IsTuple t its.toArray from p) ?_
    refine ⟨s1.heap.objs.size, [s1.heap.objs.size], _, _, H1, rfl, I1.kept (t' := s1.toks) fun b o e => Heap.get?_push_of_some _ e, turn_tuple t _, ⟨_, Heap.get?_push_size _ rfl, rfl, rfl⟩, fun b hb => ?_, q⟩
    have e : b = s1.heap.objs.size := by simpa using hb
    subst e
    exact I1.fpOk (Nat.le_refl _) (I1.hok.fresh (Nat.le_refl _))
  · obtain ⟨t, rfl⟩ := r1
    cases ha : z.cps.all (· < 128)
    · exact wpAny_pyIter_wide ha (pi_one (tk := s1.toks) I1 _ (turn_str _ z t "str_iterator" (.inr rfl)) ⟨_, Heap.get?_push_size _ rfl, rfl, rfl⟩ q)
    · exact wpAny_pyIter_ascii ha (pi_one (tk := s1.toks) I1 _ (turn_str _ z t "str_ascii_iterator" (.inl rfl)) ⟨_, Heap.get?_push_size _ rfl, rfl, rfl⟩ q)
theorem i_ex (ha : SE C Γ cn fn a) : SI C Γ cn fn (.ex a) := by
  intro X W σ R H ρ Q tg _ cd ck f
  rw [I.chk] at ck
  rw [evI] at f
  refine WIt.of (pi_src (pe_we _)) ?_
  refine ha cd ck (Fin.step f fun dx v R1 H1 e1 p1 r1 f1 => ?_)
  have c1 := cd.after p1
  obtain ⟨xs, er, f2⟩ := f1.no (items_nox _)
  unfold itemsOf at er
  split at er
  · cases er
    obtain ⟨t, vs, rfl, ht, r⟩ := r1
    exact .inl ⟨t, vs, rfl, c1.eK ▸ p1.rin.lst ht, f2.ok p1.rin (wk_list c1.eK ht r)⟩
  · cases er
    obtain ⟨t, vs, rfl, ht, r⟩ := r1
    exact .inr (.inl ⟨t, vs, rfl, c1.eK ▸ p1.rin.tup ht, f2.ok p1.rin (wk_tup c1.eK ht r)⟩)
  · cases er
    cases r1
    exact .inr (.inr ⟨_, rfl, f2.ok p1.rin (wk_str _)⟩)
  · cases er
theorem asI_step {X : Cx} {W : WX} {σ : L2.St} {R : RE} {H : Hp} {β δ : Type} {rel : RE → β → δ → Prop} {r : Ev.R DL} {g : Int → Ev.R β} {Q : δ → Hp → Prop} {Q' : VK} (f : Fin rel X W σ R H (asI r >>= g) Q)
    (k : ∀ i R1 H1, Post R H R1 H1 → Fin rel X W σ R1 H1 (g i) Q → Q' (.int i) H1) : Fin rV X W σ R H r Q' := by
  cases r with
  | ok d =>
    obtain ⟨d, l⟩ := d
    cases d with
    | int i => exact fun v R1 H1 p e => by cases e; exact k i R1 H1 p (Fin.after (r := g i) f p)
    | _ => exact f.elim
  | exc c a => exact f
  | fail => exact f.elim
theorem small62_ok {i : Int} (h : small62 i = true) : -(2 ^ 62) ≤ i ∧ i < 2 ^ 62 := by
  unfold small62 at h
  simpa using h
theorem i_rg1 {p1 p : Pos} (ha : SE C Γ cn fn a) : SI C Γ cn fn (.rg1 a p1 p) := by
  intro X W σ R H ρ Q tg _ cd ck f
  simp only [I.chk, Bool.and_eq_true] at ck
  obtain ⟨g1, g2⟩ := gl_of ck.1
  rw [evI] at f
  refine WIt.of (pi_range1 g1 cd.kn.rng (pa_cons (pe_we _) pa_nil (star_py _ _ _)) (star_py _ _ _)) ?_
  refine ha cd ck.2 (asI_step f fun i R1 H1 p1 f1 => ?_)
  split at f1
  · rename_i hs
    obtain ⟨s1, s2⟩ := small62_ok hs
    exact ⟨i, rfl, s1, s2, f1.ok p1.rin (wk_rng 0 _)⟩
  · exact f1.elim
theorem i_rg2 {p1 p : Pos} (ha : SE C Γ cn fn a) (hb : SE C Γ cn fn b) : SI C Γ cn fn (.rg2 a b p1 p) := by
  intro X W σ R H ρ Q tg _ cd ck f
  simp only [I.chk, Bool.and_eq_true] at ck
  obtain ⟨g1, g2⟩ := gl_of ck.1.1
  rw [evI] at f
  refine WIt.of (pi_range2 g1 cd.kn.rng (pa_cons (pe_we _) (pa_cons (pe_we _) pa_nil (star_py _ _ _)) (star_py _ _ _)) (by rw [star_py, star_py]; rfl) (star_py _ _ _)) ?_
  refine ha cd ck.1.2 (asI_step f fun i R1 H1 p1 f1 => ?_)
  refine hb (cd.after p1) ck.2 (asI_step f1 fun j R2 H2 p2 f2 => ?_)
  split at f2
  · rename_i hs
    rw [Bool.and_eq_true] at hs
    obtain ⟨s1, s2⟩ := small62_ok hs.1
    obtain ⟨s3, s4⟩ := small62_ok hs.2
    exact ⟨i, j, rfl, ⟨s1, s2, s3, s4⟩, f2.ok p2.rin (wk_rng i _)⟩
  · exact f2.elim
theorem i_enu {p1 p : Pos} (ha : SE C Γ cn fn a) : SI C Γ cn fn (.enu a p1 p) := by
  intro X W σ R H ρ Q tg ht cd ck f
  simp only [I.chk, Bool.and_eq_true] at ck
  obtain ⟨g1, g2⟩ := gl_of ck.1
  rw [evI] at f
  cases tg with
  | nm i x p => cases ht rfl
  | tp ts kk tp =>
    refine WIt.of (pi_enum g1 cd.kn.enu (pa_cons (pe_we _) pa_nil (star_py _ _ _)) (star_py _ _ _)) ?_
    refine ha cd ck.2 (Fin.step f fun dx v R1 H1 e1 p1 r1 f1 => ?_)
    have c1 := cd.after p1
    obtain ⟨d, k⟩ := dx
    cases d with
    | lst ds =>
      obtain ⟨t, vs, rfl, ht, r⟩ := r1
      exact ⟨t, vs, rfl, c1.eK ▸ p1.rin.lst ht, Fin.ok f1 p1.rin (wk_enum c1.eK ht r)⟩
    | _ => exact f1.elim
theorem i_zip {p1 p : Pos} (ha : SE C Γ cn fn a) (hb : SE C Γ cn fn b) : SI C Γ cn fn (.zip a b p1 p) := by
  intro X W σ R H ρ Q tg ht cd ck f
  simp only [I.chk, Bool.and_eq_true] at ck
  obtain ⟨g1, g2⟩ := gl_of ck.1.1
  rw [evI] at f
  cases tg with
  | nm i x p => cases ht rfl
  | tp ts kk tp =>
    refine WIt.of (pi_zipS g1 cd.kn.zip (pa_cons (pe_we _) (pa_cons (pe_we _) pa_nil (star_py _ _ _)) (star_py _ _ _)) (star_py _ _ _) (by rw [star_py]; rfl)) ?_
    refine ha cd ck.1.2 (Fin.step f fun dx v R1 H1 e1 p1 r1 f1 => ?_)
    have c1 := cd.after p1
    cases ex : itemsOf dx with
    | ok xs =>
      rw [ex] at f1
      have f1 : Fin (fun R' xs J => Wk R' J xs) X W σ R1 H1 (evE C Γ b ρ >>= fun y => itemsOf y >>= fun ys => .ok (zipI xs ys)) Q := f1
      refine hb c1 ck.2 (Fin.step f1 fun dy u R2 H2 e2 p2 r2 f2 => ?_)
      have c2 := c1.after p2
      cases ey : itemsOf dy with
      | ok ys =>
        rw [ey] at f2
        obtain ⟨d, k⟩ := dx
        obtain ⟨d', k'⟩ := dy
        obtain ⟨s1, rfl, o1⟩ := src_of (H := H2) ex (Rep.ext p2.ex _ _ _ r1)
        obtain ⟨s2, rfl, o2⟩ := src_of (H := H2) ey r2
        refine ⟨s1, s2, rfl, o1.has p2.rin c2.eK, o2.has p2.rin c2.eK, fun t1 t2 => ?_⟩
        exact Fin.ok f2 p2.rin (wk_zip c2.eK (o1.tok t1) (o2.tok t2) ex ey)
      | exc _ _ => exact absurd ey (items_nox _ _ _)
      | fail => rw [ey] at f2; exact f2.elim
    | exc _ _ => exact absurd ex (items_nox _ _ _)
    | fail =>
      rw [ex] at f1
      exact f1.elim

/-! ### comprehensions -/
def UE (X : Cx) (scope : Scope) (e : Expr) (σ : L2.St) (H : Hp) (Q : VK) : Prop := ∀ (s : Shared) (H0 : Hp) (Cc : Addr) (cl : List (Str × Addr)) (fp : List Addr), WE (X.blk s H0 scope (compEnvC scope cl Cc X.env) fp) e σ H Q
def UT (X : Cx) (scope : Scope) (e : Expr) (σ : L2.St) (H : Hp) (Q : Bool → Hp → Prop) : Prop := ∀ (s : Shared) (H0 : Hp) (Cc : Addr) (cl : List (Str × Addr)) (fp : List Addr), WT (X.blk s H0 scope (compEnvC scope cl Cc X.env) fp) e σ H Q
def UG (X : Cx) (scope : Scope) (e : Expr) (v : V) (σ : L2.St) (H : Hp) (Q : L2.St → Hp → Prop) : Prop := ∀ (s : Shared) (H0 : Hp) (Cc : Addr) (cl : List (Str × Addr)) (fp : List Addr), WG (X.blk s H0 scope (compEnvC scope cl Cc X.env) fp) e v σ H Q
def UTs (X : Cx) (scope : Scope) (es : List Expr) : TT := match es with
  | [] => tYes
  | e :: _ => fun σ H Q => UT X scope e σ H Q
theorem Cd.blk {X : Cx} {W : WX} {σ : L2.St} {R : RE} {H : Hp} {ρ : Env} (h : Cd X W C Γ cn fn σ R H ρ) {σ' : L2.St} {R' : RE} {H' : Hp} {ρ' : Env} (rel : Rel R' ρ' σ') (x : RIn R' H') (eK : R'.K = X.K) (ew : R'.w = X.w) (s : Shared) (H0 : Hp) (scope : Scope) (cenv : PySem.Env) (fp : List Addr) :
    Cd (X.blk s H0 scope cenv fp) (fun _ _ _ _ => False) C Γ cn fn σ' R' H' ρ' := ⟨h.kn.blk s H0 scope cenv fp, takes_none _, rel, x, eK, ew⟩
theorem blk_scope (X : Cx) (scope : Scope) (cl : List (Str × Addr)) (Cc : Addr) : (compEnvC scope cl Cc X.env).scope = relS scope X.env.scope := rfl
theorem pts_uts {X : Cx} {scope : Scope} {ifs : List E} (h : ifs.length ≤ 1) (s : Shared) (H0 : Hp) (Cc : Addr) (cl : List (Str × Addr)) (fp : List Addr) : PTs (X.blk s H0 scope (compEnvC scope cl Cc X.env) fp) (E.pys ifs) (UTs X scope (E.pys ifs)) := by
  cases ifs with
  | nil => exact pts_nil
  | cons e es =>
    cases es with
    | nil => exact pts_one ⟨fun pins s' σ H Q I h => h s H0 Cc cl fp pins s' I⟩
    | cons _ _ => simp at h
theorem ifs_nox {ifs : List E} {ρ : Env} (h : ¬ ifs.length ≤ 1) : evIfs C Γ ifs ρ = .fail := by
  match ifs with
  | [] => simp at h
  | [_] => simp at h
  | _ :: _ :: _ => rfl
/-- the tests of a comprehension -/
theorem ifs_ok {X : Cx} {W : WX} {σ : L2.St} {R : RE} {H : Hp} {ρ : Env} {scope : Scope} {ifs : List E} {k : Bool} {Q : Bool → Hp → Prop} (cd : Cd X W C Γ cn fn σ R H ρ) {σ' : L2.St} {R' : RE} {H' : Hp} {ρ' : Env} (rel : Rel R' ρ' σ') (x : RIn R' H') (eK : R'.K = X.K) (ew : R'.w = X.w)
    (h : ∀ e ∈ ifs, STe C Γ cn fn e) (ck : E.chkT cn fn X.N (relS scope X.env.scope) (fun x => scope.names.lookup x == some .cell) ifs = true) (e : evIfs C Γ ifs ρ' = .ok k) (q : ∀ R2 H2, Post R' H' R2 H2 → Q k H2) : UTs X scope (E.pys ifs) σ' H' Q := by
  match ifs, h, ck, e with
  | [], _, _, e => cases e; exact q R' H' (.refl x)
  | [t], h, ck, e =>
    intro s H0 Cc cl fp
    simp only [E.chkT, Bool.and_eq_true, Bool.not_eq_true'] at ck
    refine h t List.mem_cons_self (cd.blk rel x eK ew s H0 scope (compEnvC scope cl Cc X.env) fp) ck.1.1 ck.1.2 ?_
    have e : (evE C Γ t ρ' >>= truD) = .ok k := e
    rw [e]
    intro b R2 H2 p eb
    cases eb
    exact q R2 H2 p
  | _ :: _ :: _, _, _, e => cases e
def lcTe (C : Nat → D) (Γ : Fns) (elt : E) (tg : Tg) (ifs : List E) (ρ : Env) (xs : List DL) : Ev.R (List DL) := lcLoop tg.bind (fun ρ' => evIfs C Γ ifs ρ') (fun ρ' => evE C Γ elt ρ') ρ xs
theorem lc_nox {elt : E} {tg : Tg} {ifs : List E} {ρ : Env} {xs : List DL} (q : Str) (z : D) (h : lcTe C Γ elt tg ifs ρ xs = .exc q z) : False := by
  induction xs with
  | nil => cases h
  | cons x xs ih =>
    unfold lcTe lcLoop at h
    split at h
    · cases h
    · split at h
      · split at h
        · split at h
          · cases h
          · cases h
        · cases h
      · exact ih h
      · cases h
theorem lc_body {X : Cx} {W : WX} {σ : L2.St} {R : RE} {H : Hp} {ρ : Env} {elt : E} {tg : Tg} {it : I} {ifs : List E} {scope : Scope} {own : List (Str × Nat)} {Q : VK}
    (he : SE C Γ cn fn elt) (hi : SI C Γ cn fn it) (hf : ∀ e ∈ ifs, STe C Γ cn fn e) (ht : it.needsTp = true → tg.isTp = true)
    (cd : Cd X W C Γ cn fn σ R H ρ) (ck1 : blkC X.N X.env.scope scope own = true) (ck2 : it.chk cn fn X.N X.env.scope X.fn = true) (ck3 : tg.chk X.N (relS scope X.env.scope) (fun x => scope.names.lookup x == some .cell) (own.map (·.2)) = true)
    (ck4 : E.chkT cn fn X.N (relS scope X.env.scope) (fun x => scope.names.lookup x == some .cell) ifs = true) (ck5 : elt.chk cn fn X.N (relS scope X.env.scope) (fun x => scope.names.lookup x == some .cell) = true)
    (f : Fin rV X W σ R H (evI C Γ it ρ >>= fun xs => lcTe C Γ elt tg ifs (wipeE ρ (own.map (·.2))) xs >>= fun ys => if ys.length ≤ sizeLine then .ok (.lst (ys.map (·.1)), upL (maxLv ys)) else .fail) Q) :
    tLc (WIt X tg.py it.py) (UG X scope tg.py) (UTs X scope (E.pys ifs)) (UE X scope elt.py) (own.map (·.2)) σ H Q := by
  refine hi tg ht cd ck2 (Fin.step f fun xs J R1 H1 e1 p1 wk f1 => ?_)
  have c1 := cd.after p1
  intro d0 n0
  cases el : lcTe C Γ elt tg ifs (wipeE ρ (own.map (·.2))) xs with
  | ok ys =>
    rw [el] at f1
    have f1 : Fin rV X W σ R1 H1 (if ys.length ≤ sizeLine then .ok (.lst (ys.map (·.1)), upL (maxLv ys)) else .fail) Q := f1
    split at f1
    · rename_i hsz
      let Pv : Nat → Hp → Prop := fun i H' => ∃ R' acc zs rest, PostD R1 H1 d0 R' H' ∧ H' d0 = some (.lst acc) ∧ rVs R' zs acc ∧ lcTe C Γ elt tg ifs (wipeE ρ (own.map (·.2))) (xs.drop i) = .ok rest ∧ ys = zs ++ rest
      refine ⟨fun i m H' => m = xs.length - i ∧ i ≤ xs.length ∧ Pv i H', ⟨xs.length, rfl, Nat.zero_le _, R1, [], [], ys, .start p1.rin n0, upd_same, .nil, el, rfl⟩, ?_⟩
      rintro i m H2 ⟨rfl, hi', R2, acc, zs, rest, pd, hD, rz, er, ey⟩
      have wk2 : Wk R2 J xs := wk.ext pd.ex p1.rin.inn
      have eK2 : R2.K = X.K := pd.ex.K.trans c1.eK
      have ew2 : R2.w = X.w := pd.ex.w.trans c1.ew
      by_cases hlt : i < xs.length
      · refine .inr ⟨wk2.go i H2 hlt pd.rin, Pv (i + 1), fun H' q => ⟨xs.length - (i + 1), by omega, rfl, hlt, q⟩, fun v H3 hy => ?_⟩
        obtain ⟨R3, p3, r3⟩ := wk2.yld i xs[i] H2 v H3 (List.getElem?_eq_getElem hlt) pd.rin hy R2 (.refl R2) pd.rin
        have pd3 := pd.step hD p3
        have hD3 : H3 d0 = some (.lst acc) := p3.same _ _ hD
        rw [List.drop_eq_getElem_cons hlt] at er
        unfold lcTe lcLoop at er
        split at er
        · cases er
        · rename_i ρ' eb
          have relw : Rel R3 (wipeE ρ (own.map (·.2))) (L2.wipe σ (own.map (·.2))) := ((c1.rel.ext pd.ex).ext p3.ex).wipe _
          have eK3 : R3.K = X.K := p3.ex.K.trans eK2
          have ew3 : R3.w = X.w := p3.ex.w.trans ew2
          intro s H0 Cc cl fp
          refine tg_ok (X := X.blk s H0 scope (compEnvC scope cl Cc X.env) fp) c1.kn.calm c1.kn.nd p3.rin eK3 (own.map fun q : Str × Nat => q.2) tg xs[i].1 xs[i].2 _ ρ' _ v _ ck3 eb r3 relw fun σ' rel' hw => ?_
          refine ⟨by rw [hw]; exact wipe_wipe _ _ fun v hv => hv, ?_⟩
          split at er
          · rename_i et
            split at er
            · rename_i y ey'
              split at er
              · rename_i rest' er'
                cases er
                refine ifs_ok cd rel' p3.rin eK3 ew3 hf ck4 et fun R4 H4 p4 => ?_
                rw [if_pos rfl]
                intro s H0 Cc cl fp
                refine he (c1.blk (rel'.ext p4.ex) p4.rin (p4.ex.K.trans eK3) (p4.ex.w.trans ew3) s H0 scope (compEnvC scope cl Cc X.env) fp) ck5 ?_
                rw [ey']
                intro u R5 H5 p5 r5
                have pd4 := pd3.step hD3 p4
                have hD4 := p4.same _ _ hD3
                have pd5 := pd4.step hD4 p5
                have hD5 := p5.same _ _ hD4
                refine ⟨acc, hD5, ?_, R5, acc ++ [u], zs ++ [y], rest', pd5.write, upd_same, rVs_app (((rz.ext p3.ex).ext p4.ex).ext p5.ex) (.cons r5 .nil), er', by rw [ey, List.append_assoc]; rfl⟩
                have h1 := rVs_len rz
                have h2 : ys.length = zs.length + (rest'.length + 1) := by rw [ey, List.length_append, List.length_cons]
                omega
              · cases er
            · cases er
          · rename_i et
            refine ifs_ok cd rel' p3.rin eK3 ew3 hf ck4 et fun R4 H4 p4 => ?_
            rw [if_neg Bool.false_ne_true]
            exact ⟨R4, acc, zs, rest, pd3.step hD3 p4, p4.same _ _ hD3, (rz.ext p3.ex).ext p4.ex, er, ey⟩
          · cases er
      · have hi2 : i = xs.length := by omega
        subst hi2
        refine .inl ⟨wk2.stop H2 pd.rin, ?_⟩
        rw [List.drop_length] at er
        have er : rest = [] := by unfold lcTe lcLoop at er; cases er; rfl
        subst er
        rw [List.append_nil] at ey
        subst ey
        obtain ⟨pc, px⟩ := pd.close (upL (maxLv ys)) hD
        refine f1.good _ _ _ pc ⟨d0, acc, rfl, RE.lay_hp _ _ _ _, ?_⟩
        exact (rVs_max pd.rin.inn rz (le_pr_upL _)).ext px
    · exact f1.elim
  | exc q z => exact (lc_nox q z el).elim
  | fail => rw [el] at f1; exact f1.elim
theorem s_lc {elt : E} {tg : Tg} {it : I} {ifs : List E} {scope : Scope} {own : List (Str × Nat)} {p : Pos} (he : SE C Γ cn fn elt) (hi : SI C Γ cn fn it) (hf : ∀ e ∈ ifs, STe C Γ cn fn e) : SE C Γ cn fn (.lc elt tg it ifs scope own p) := by
  intro X W σ R H ρ Q cd ck f
  simp only [E.chk, Bool.and_eq_true] at ck
  obtain ⟨⟨⟨⟨⟨⟨k0, k1⟩, k2⟩, k3⟩, k4⟩, k5⟩, k6⟩ := ck
  have hl : ifs.length ≤ 1 := of_decide_eq_true k0
  have ht : it.needsTp = true → tg.isTp = true := fun h => by rw [h] at k1; simpa using k1
  rw [evE] at f
  refine WE.of (pe_lc (wi := WIt X tg.py it.py) (g := UG X scope tg.py) (tt := UTs X scope (E.pys ifs)) (te := UE X scope elt.py) cd.kn.calm cd.kn.nd (pi_wi _ _) (blkOk_by k2) (fun s H0 Cc cl fp => ⟨fun pins s' σ H v u Q I r h => h s H0 Cc cl fp pins s' u I r⟩) (pts_uts hl) (fun s H0 Cc cl fp => ⟨fun pins s' σ H Q I h => h s H0 Cc cl fp pins s' I⟩) (fold_I _ _)) ?_
  exact lc_body he hi hf ht cd k2 k3 k4 k5 k6 f

/-! ### all of them -/
theorem plain_all (e : E) (h : SE C Γ cn fn e) (hp : ∀ (env : PySem.Env) whole, isTrue e.py env whole = (do let v ← whole; standAt e.py.pos; holding [v] (truthy v))) : SE C Γ cn fn e ∧ STe C Γ cn fn e := ⟨h, t_plain h hp⟩
theorem fs_cons {es : List E} (h1 : STe C Γ cn fn a) (h2 : ∀ e ∈ es, STe C Γ cn fn e) : ∀ e ∈ a :: es, STe C Γ cn fn e := by
  intro e he
  rcases List.mem_cons.mp he with rfl | he
  · exact @h1
  · exact h2 e he
structure Bx (p : Prop) : Prop where
  h : p
mutual
theorem e_ok : ∀ e : E, SE C Γ cn fn e ∧ STe C Γ cn fn e
  | .var i x p => plain_all _ (s_var i x p) fun _ _ => rfl
  | .cst n x p => plain_all _ (s_cst n x p) fun _ _ => rfl
  | .int n j p => plain_all _ (s_int n j p) fun _ _ => rfl
  | .bl b j p => plain_all _ (s_bl b j p) fun _ _ => rfl
  | .non j p => plain_all _ (s_non j p) fun _ _ => rfl
  | .str s j p => plain_all _ (s_str s j p) fun _ _ => rfl
  | .bin o a b p => plain_all _ (s_bin (e_ok a).1 (e_ok b).1) fun _ _ => rfl
  | .neg a p => plain_all _ (s_neg (e_ok a).1) fun _ _ => rfl
  | .not a p => ⟨s_not (e_ok a).1, t_not (e_ok a).2⟩
  | .cmp o a b p => ⟨s_cmp (e_ok a).1 (e_ok b).1, t_cmp (e_ok a).1 (e_ok b).1⟩
  | .chn o1 o2 a b c p => ⟨s_chn (e_ok a).1 (e_ok b).1 (e_ok c).1, t_chn (e_ok a).1 (e_ok b).1 (e_ok c).1⟩
  | .and es p => s_and (and_ok es).h
  | .or es p => s_or (or_ok es).h
  | .ife c a b p => ⟨s_ife (e_ok c).2 (e_ok a).1 (e_ok b).1, fun _ _ h => by cases h⟩
  | .tup as x1 p => plain_all _ (s_tup (aas_ok as).h) fun _ _ => rfl
  | .lst as p => plain_all _ (s_lst (aas_ok as).h) fun _ _ => rfl
  | .dic kvs p => plain_all _ (s_dic (ak_ok kvs).h) fun _ _ => rfl
  | .dic0 t p => plain_all _ s_dic0 fun _ _ => rfl
  | .sub a i p => plain_all _ (s_sub (e_ok a).1 (e_ok i).1) fun _ _ => rfl
  | .slc a lo hi p2 p => plain_all _ (s_slc (e_ok a).1 (ao_ok lo).h (ao_ok hi).h) fun _ _ => rfl
  | .rev a j p0 p1 p2 p => plain_all _ (s_rev (e_ok a).1) fun _ _ => rfl
  | .call f x as p1 p => plain_all _ (s_call (as_ok as).h) fun _ _ => rfl
  | .blt b x as p1 p => plain_all _ (s_blt (as_ok as).h) fun _ _ => rfl
  | .isT a p1 p2 p => plain_all _ (s_isT (e_ok a).1) fun _ _ => rfl
  | .cix n x a p0 p1 p => plain_all _ (s_cix (e_ok a).1) fun _ _ => rfl
  | .mth m x o as p1 p => plain_all _ (s_mth (e_ok o).1 (as_ok as).h) fun _ _ => rfl
  | .lsI it x p1 p => plain_all _ (fun _ h => by cases h) fun _ _ => rfl
  | .lc elt tg it ifs sc own p => plain_all _ (s_lc (e_ok elt).1 (i_ok it).h (fs_ok ifs).h) fun _ _ => rfl
  | .dc kx vx t tg it ifs sc own p => plain_all _ (fun _ h => by cases h) fun _ _ => rfl
theorem as_ok : ∀ es : List E, Bx (SA C Γ cn fn es)
  | [] => ⟨as_nil⟩
  | e :: es => ⟨as_cons (e_ok e).1 (as_ok es).h⟩
theorem fs_ok : ∀ es : List E, Bx (∀ e ∈ es, STe C Γ cn fn e)
  | [] => ⟨fun e h => by cases h⟩
  | e :: es => ⟨fs_cons (e_ok e).2 (fs_ok es).h⟩
theorem and_ok : ∀ es : List E, Bx (SAn C Γ cn fn es)
  | [] => ⟨and_nil⟩
  | [e] => ⟨and_one (e_ok e).1 (e_ok e).2⟩
  | e :: e2 :: es => ⟨and_cons (e_ok e).1 (e_ok e).2 (and_ok (e2 :: es)).h⟩
theorem or_ok : ∀ es : List E, Bx (SOr C Γ cn fn es)
  | [] => ⟨or_nil⟩
  | [e] => ⟨or_one (e_ok e).1 (e_ok e).2⟩
  | e :: e2 :: es => ⟨or_cons (e_ok e).1 (e_ok e).2 (or_ok (e2 :: es)).h⟩
theorem aas_ok : ∀ es : List (Option Pos × E), Bx (SAs C Γ cn fn es)
  | [] => ⟨aas_nil⟩
  | (none, e) :: es => ⟨aas_cons (e_ok e).1 (aas_ok es).h⟩
  | (some q, e) :: es => ⟨aas_star (e_ok e).1 (aas_ok es).h⟩
theorem ak_ok : ∀ es : List (E × E), Bx (SK C Γ cn fn es)
  | [] => ⟨ak_nil⟩
  | (k, v) :: es => ⟨ak_cons (e_ok k).1 (e_ok v).1 (ak_ok es).h⟩
theorem ao_ok : ∀ o : Option E, Bx (SO C Γ cn fn o)
  | none => ⟨ao_none⟩
  | some e => ⟨ao_some (e_ok e).1⟩
theorem i_ok : ∀ i : I, Bx (SI C Γ cn fn i)
  | .ex e => ⟨i_ex (e_ok e).1⟩
  | .rg1 a p1 p => ⟨i_rg1 (e_ok a).1⟩
  | .rg2 a b p1 p => ⟨i_rg2 (e_ok a).1 (e_ok b).1⟩
  | .enu e p1 p => ⟨i_enu (e_ok e).1⟩
  | .zip a b p1 p => ⟨i_zip (e_ok a).1 (e_ok b).1⟩
end
end
end Ev
set_option Elab.async false
set_option linter.all false
set_option maxRecDepth 100000
set_option maxHeartbeats 1000000
/-! Ev18: a try with several clauses, each with a name or without. -/
namespace Ev
open PySem PySem.Spec PyProof.Rows L2
abbrev Cls := Value × Option Nat × (Addr → Value → Option Addr → TS)
/-- the ends behind a clause whose name is at i -/
def gone (D : Ends) (i : Nat) : Ends := { nx := fun σ' H' => D.nx (σ'.set i none) H', rt := D.rt, bk := fun σ' H' => D.bk (σ'.set i none) H', ct := fun σ' H' => D.ct (σ'.set i none) H' }
def runC (D : Ends) (σ : L2.St) (H : Hp) (a : Addr) (cls : Value) (d : Option Addr) : Option Nat → (Addr → Value → Option Addr → TS) → Prop
  | none, ts => ts a cls d D σ H
  | some i, ts => ts a cls d (gone D i) (σ.set i (some (.ref a))) H
def wMix (K : PySem.W.Frag) (Wout : WX) (D : Ends) : List Cls → WX
  | [] => Wout
  | (c, on, ts) :: r => fun cls d σ H => ∃ b, PySem.W.exmOne K cls c = some b ∧ (b = true → ∀ a, H a = none → runC D σ H a cls d on ts) ∧ (b = false → wMix K Wout D r cls d σ H)
inductive HdsM (X : Cx) : List ExceptHandler → List Cls → Prop
  | nil : HdsM X [] []
  | cons {x : Str} {c : Value} {ts : Addr → Value → Option Addr → TS} {b₀ : Stmt} {suite : List Stmt} {np pos' : Pos} {hds : List ExceptHandler} {l : List Cls} (hc : Names X x c)
      (hsu : ∀ (a : Addr) (oe : Obj) (cls : Value) (d : Option Addr) (pn : List (Addr × Obj)), Zc cls d oe → (∃ vs, oe.data = .fields vs) → PSs (X.suite a ((a, oe) :: pn)) (b₀ :: suite) (ts a cls d)) (r : HdsM X hds l) :
      HdsM X (.ExceptHandler (some (.Name x np)) none (b₀ :: suite) pos' :: hds) ((c, none, ts) :: l)
  | as_ {x n : Str} {i : Nat} {c : Value} {ts : Addr → Value → Option Addr → TS} {b₀ : Stmt} {suite : List Stmt} {np pos' : Pos} {hds : List ExceptHandler} {l : List Cls} (hc : Names X x c) (hN : X.N.Nodup) (hi : X.N[i]? = some n) (hln : X.env.kindOf n = some .local)
      (hsu : ∀ (a : Addr) (oe : Obj) (cls : Value) (d : Option Addr) (pn : List (Addr × Obj)), Zc cls d oe → (∃ vs, oe.data = .fields vs) → PSs (X.suite a ((a, oe) :: pn)) (b₀ :: suite) (ts a cls d)) (r : HdsM X hds l) :
      HdsM X (.ExceptHandler (some (.Name x np)) (some n) (b₀ :: suite) pos' :: hds) ((c, some i, ts) :: l)
section
variable {X : Cx} {body : List Stmt} {h₀ : ExceptHandler} {hds : List ExceptHandler} {l : List Cls} {pos : Pos} {tb : WX → TS} {Wout : WX}
theorem ps_try_mix (hs : X.stack = X.env :: X.outer) (hf : X.env.frame = some X.env.locals) (tk : Takes X Wout)
    (hb : ∀ (W : WX) (pn : List (Addr × Obj)) (xe : Value → Shared → Prop), Takes (X.tr pn xe) W → PassesOwn (model X.prog X.w) X.A X.env xe → PSs (X.tr pn xe) body (tb W))
    (hh : HdsM X (h₀ :: hds) l) : PS X (.Try body (h₀ :: hds) [] [] pos) (fun D σ H => tb (wMix X.K Wout D l) D σ H) := by
  refine ⟨fun pins s σ H D I h => ?_⟩
  have ok := I.ok
  have hfr : X.A.frames = some (X.env :: X.outer) := by rw [ok.frames, hs]
  refine wpAny_Try_except ?_
  refine wpAny_mono ((hb (wMix X.K Wout D l) (X.pn ++ pins) (fun e s₁ => wpAny (model X.prog X.w) X.A (noteFrame e X.env) (fun _ s₂ => wpAny (model X.prog X.w) X.A (setFlight e none) (fun _ s₃ =>
    wpAny (model X.prog X.w) X.A (handleBy e X.env (h₀ :: hds)) (SP X pins D) X.xe s₃) X.xe s₂) X.xe s₁) (fun u s' xx => ?_) PassesOwn.looking).run [] s σ H D (I.toTry _) h) (fun f s1 hsp => ?_) (fun e s1 he => he)
  · obtain ⟨a, B, sI, pins', σ', H', cls, d, rfl, J', nb, up, sky, na, os, ag, w⟩ := xx
    have J : Inv X pins σ' H' sI := J'.ofTry ok
    have sky' : Sky B (X.env :: X.outer) a (Zc cls d) X.env.locals s'.heap := by rw [← hs]; exact sky
    show wpAny (model X.prog X.w) X.A (noteFrame (.ref a) X.env) _ _ _
    refine Sky.land Zc.steady hfr hf sky' fun h3 fl3 up3 => ?_
    have J3 : Inv X pins σ' H' { s' with heap := h3 } := J.landed nb fl3.1 (up.trans up3) os ag
    obtain ⟨oe3, vs3, he3, hz3, hd3⟩ := fl3.there
    have nfr : a ∉ frs (X.env :: X.outer) := fun hm => by
      obtain ⟨_, o', e', hnf⟩ := fl3.2.2.1.mem hm
      rw [he3] at e'; cases e'
      exact hnf _ hd3
    have nL : a ≠ X.env.locals := fun z => nfr (List.mem_filterMap.mpr ⟨X.env, List.mem_cons_self, by rw [hf, z]⟩)
    have nF : a ∉ X.fs := fun hm => by
      obtain ⟨e, he, q⟩ := List.mem_filterMap.mp hm
      exact nfr (List.mem_filterMap.mpr ⟨e, List.mem_cons_of_mem _ he, q⟩)
    have S3 := J3.suite he3 hd3 na nL nF
    have test : ∀ {x : Str} {np : Pos} {c : Value}, Names X x c → ∀ {Q : Value → Shared → Prop} {E : Value → Shared → Prop}, Q c { s' with heap := h3 } → wpAny (model X.prog X.w) (X.A.mark (some (.ref a))) (eval (.Name x np) X.env) Q E { s' with heap := h3 } := fun {x np c} hc {Q E} q => by
      obtain ⟨hg, hdbg, hm | ⟨hm, hv, hnn⟩⟩ := hc
      · exact ld_glob (X := X.suite a ((a, oe3) :: (X.pn ++ pins))) S3 hg hm q hdbg
      · exact ld_blt (X := X.suite a ((a, oe3) :: (X.pn ++ pins))) S3 hg hm hv q hnn hdbg
    have LT : PySem.W.Looks (model X.prog X.w) h3 (typeOf (.ref a)) cls := fun A Q E s k q => wpAny_typeOf_ref (k _ _ he3) (by rw [hz3.1]; exact q)
    have go : ∀ {hds' : List ExceptHandler} {l' : List Cls}, HdsM X hds' l' → wMix X.K Wout D l' cls d σ' H' →
        wpAny (model X.prog X.w) X.A (handleBy (.ref a) X.env hds') (SP X pins D) X.xe { s' with heap := h3 } := by
      intro hds' l' hk
      induction hk with
      | nil =>
        intro w
        refine wpAny_handleBy_nil ?_
        obtain ⟨k1, k2, k3, oe, vs, T, oT, ts', he, hz, hd, h1, hr⟩ := id fl3
        unfold PySem.passOn
        refine wpAny_bind (wpAny_field he hd h1 ?_)
        rw [if_neg (show ¬ ((Value.ref T == Value.none) = true) from by simp)]
        have fin : wpAny (model X.prog X.w) X.A (setFlight (.ref a) X.env.frame) (fun _ s4 => wpAny (model X.prog X.w) X.A (throw (.ref a) : Sem Flow) (SP X pins D) X.xe s4) X.xe { s' with heap := h3 } := by
          rw [hf]
          refine HandSPX.setFlight_upZ fl3 fun h4 hh4 up4 => wpAny_throw (tk _ _ ?_)
          exact ⟨a, B, sI, pins, σ', H', cls, d, rfl, J, nb, (up.trans up3).trans up4, .inr (.inr (by rw [hs]; exact hh4)), na, os, ag, w⟩
        first
          | exact wpAny_bind (wpAny_pure (wpAny_bind fin))
          | exact wpAny_bind fin
      | @cons x c ts b₀ suite np pos' hds2 l2 hc hsu r ih =>
        intro w
        obtain ⟨b, hb1, hyes, hno⟩ := w
        refine wpAny_handleBy_cons (codeAny_handlers_test ?_) (by intro q; cases q)
        have LM := PySem.W.exm_one (M := model X.prog X.w) (J3.kIn) LT hb1
        refine test hc (LM.here ?_)
        cases b with
        | true =>
          refine codeAny_handlers_suite ?_
          refine HandSPX.lands_againZ fl3 fun h4 fl4 up4 => ?_
          have J4 : Inv X pins σ' H' { s' with heap := h4 } := J.landed nb fl4.1 ((up.trans up3).trans up4) os ag
          obtain ⟨oe4, vs4, he4, hz4, hd4⟩ := fl4.there
          have S4 := J4.suite he4 hd4 na nL nF
          refine wpAny_mono ((hsu a oe4 cls d (X.pn ++ pins) hz4 ⟨_, hd4⟩).run [] _ _ H' _ S4 (hyes rfl a na)) (fun f s6 hsp => ?_) (fun _ _ z => False.elim z)
          cases f with
          | next =>
            obtain ⟨σ6, H6, S6, q6⟩ := hsp
            exact ⟨_, _, S6.unsuite ok, q6⟩
          | brk =>
            obtain ⟨σ6, H6, S6, q6⟩ := hsp
            exact ⟨_, _, S6.unsuite ok, q6⟩
          | cont =>
            obtain ⟨σ6, H6, S6, q6⟩ := hsp
            exact ⟨_, _, S6.unsuite ok, q6⟩
          | ret u =>
            obtain ⟨v6, σ6, H6, S6, r6, q6⟩ := hsp
            exact ⟨_, _, _, S6.unsuite ok, r6, q6⟩
        | false =>
          show wpAny _ X.A (handleBy (.ref a) X.env hds2) _ _ _
          exact ih (hno rfl)
      | @as_ x n i c ts b₀ suite np pos' hds2 l2 hc hN hi hln hsu r ih =>
        intro w
        obtain ⟨b, hb1, hyes, hno⟩ := w
        have hloc : Loc X.env.scope n := .inl hln
        refine wpAny_handleBy_cons (codeAny_handlers_test ?_) (by intro q; cases q)
        have LM := PySem.W.exm_one (M := model X.prog X.w) (J3.kIn) LT hb1
        refine test hc (LM.here ?_)
        cases b with
        | true =>
          refine codeAny_handlers_suite_as ?_
          refine HandSPX.lands_againZ fl3 fun h4 fl4 up4 => ?_
          have J4 : Inv X pins σ' H' { s' with heap := h4 } := J.landed nb fl4.1 ((up.trans up3).trans up4) os ag
          obtain ⟨oe4, vs4, he4, hz4, hd4⟩ := fl4.there
          have S4 := J4.suite he4 hd4 na nL nF
          refine store_ok (X := X.suite a ((a, oe4) :: (X.pn ++ pins))) (v := .ref a) S4 hN hi hloc rfl (fun s5 S5 => ?_) (.inr hln)
          refine wpAny_mono ((hsu a oe4 cls d (X.pn ++ pins) hz4 ⟨_, hd4⟩).run [] s5 _ H' _ S5 (hyes rfl a na)) (fun f s6 hsp => ?_) (fun _ _ z => False.elim z)
          have end_ : ∀ {σ6 : L2.St} {H6 : Hp} {Q : Shared → Prop}, Inv (X.suite a ((a, oe4) :: (X.pn ++ pins))) [] σ6 H6 s6 → (∀ s7, Inv X pins (σ6.set i none) H6 s7 → Q s7) →
              wpAny (model X.prog X.w) X.A (do bindName X.env n .none; unbindBehindTheSuite X.env n pos') (fun _ s7 => Q s7) X.xe s6 := fun {σ6 H6 Q} S6 hq => gone_ok (S6.unsuite ok) hN hi hln hq
          cases f with
          | next =>
            obtain ⟨σ6, H6, S6, q6⟩ := hsp
            exact end_ S6 fun s7 J7 => ⟨_, _, J7, q6⟩
          | brk =>
            obtain ⟨σ6, H6, S6, q6⟩ := hsp
            exact end_ S6 fun s7 J7 => ⟨_, _, J7, q6⟩
          | cont =>
            obtain ⟨σ6, H6, S6, q6⟩ := hsp
            exact end_ S6 fun s7 J7 => ⟨_, _, J7, q6⟩
          | ret u =>
            obtain ⟨v6, σ6, H6, S6, r6, q6⟩ := hsp
            exact end_ S6 fun s7 J7 => ⟨_, _, _, J7, r6, q6⟩
        | false =>
          show wpAny _ X.A (handleBy (.ref a) X.env hds2) _ _ _
          exact ih (hno rfl)
    exact go hh w
  · cases f with
    | next =>
      obtain ⟨σ', H', J', q⟩ := hsp
      exact wpAny_execs_nil ⟨σ', H', J'.ofTry ok, q⟩
    | brk =>
      obtain ⟨σ', H', J', q⟩ := hsp
      exact ⟨σ', H', J'.ofTry ok, q⟩
    | cont =>
      obtain ⟨σ', H', J', q⟩ := hsp
      exact ⟨σ', H', J'.ofTry ok, q⟩
    | ret u =>
      obtain ⟨v, σ', H', J', r, q⟩ := hsp
      exact ⟨v, σ', H', J'.ofTry ok, r, q⟩
end
end Ev
set_option Elab.async false
set_option linter.all false
set_option maxRecDepth 100000
set_option maxHeartbeats 1000000
/-! Ev19: statements and what they mean. -/
namespace Ev
open PySem PySem.Spec PyProof.Rows L2

structure Nm where
  i : Nat
  x : Str
  p : Pos
  own : Bool := false
/-- what an except suite gives back -/
inductive HE where
  | at (i : Nat) (x : Str) (p p' : Pos)
  | non (j : Nat) (p : Pos)
  | bl (b : Bool) (j : Nat) (p : Pos)
  | int (n : Int) (j : Nat) (p : Pos)
  | str (s : Str) (j : Nat) (p : Pos)
  | tup (es : List HE) (k : Nat) (p : Pos)
structure Hd where
  c : Str
  np : Pos
  nm : Option (Nat × Str)
  e : HE
  rp : Pos
  hp : Pos
inductive S where
  | set (n : Nm) (e : E) (p : Pos)
  | unp (t : Tg) (e : E) (p : Pos)
  | par (ns : List Nm) (es : List E) (kt : Nat) (pt : Pos) (k2 : Nat) (pt2 p : Pos)
  | put (n : Nm) (i v : E) (pt p : Pos)
  | app (n : Nm) (e : E) (p1 p2 p : Pos)
  | exp (e : E) (p : Pos)
  | ret (e : E) (p : Pos)
  | ifs (c : E) (a b : List S) (p : Pos)
  | forr (t : Tg) (it : I) (b : List S) (p : Pos)
  | rse (c : Str) (e : E) (p0 p1 p : Pos)
  | tri (b : List S) (hs : List Hd) (p : Pos)
  | frz (is : List Nat)
mutual
def HE.py : HE → Expr
  | .at _ x p p' => .Attribute (.Name x p) "at" p'
  | .non j p => .Constant .none j p
  | .bl b j p => .Constant (.bool b) j p
  | .int n j p => .Constant (.int n) j p
  | .str s j p => .Constant (.str s) j p
  | .tup es k p => .Tuple (HE.pys es) k p
def HE.pys : List HE → List Expr
  | [] => []
  | e :: es => e.py :: HE.pys es
end
def Hd.py (h : Hd) : ExceptHandler := .ExceptHandler (some (.Name h.c h.np)) (h.nm.map (·.2)) [.Return (some h.e.py) h.rp] h.hp
def nmT (n : Nm) : Expr := .Name n.x n.p
mutual
def S.py : S → List Stmt
  | .set n e p => [.Assign [.Name n.x n.p] e.py p]
  | .unp t e p => [.Assign [t.py] e.py p]
  | .par ns es kt pt k2 pt2 p => [.Assign [.Tuple (ns.map nmT) kt pt] (.Tuple (E.pys es) k2 pt2) p]
  | .put n i v pt p => [.Assign [.Subscript (.Name n.x n.p) i.py pt] v.py p]
  | .app n e p1 p2 p => [.Expr (.Call (.Attribute (.Name n.x n.p) "append" p1) [e.py] [] p2) p]
  | .exp e p => [.Expr e.py p]
  | .ret e p => [.Return (some e.py) p]
  | .ifs c a b p => [.If c.py (S.pys a) (S.pys b) p]
  | .forr t it b p => [.For t.py it.py (S.pys b) [] p]
  | .rse c e p0 p1 p => [.Raise (some (.Call (.Name c p0) [e.py] [] p1)) none p]
  | .tri b hs p => [.Try (S.pys b) (hs.map Hd.py) [] [] p]
  | .frz _ => []
def S.pys : List S → List Stmt
  | [] => []
  | s :: ss => s.py ++ S.pys ss
end

/-! ### meaning -/
inductive O where
  | nx (ρ : Env) | bk (ρ : Env) | ct (ρ : Env) | rt (d : D)
def T.owned : T → Bool
  | .bor _ _ => false
  | _ => true
/-- what may be stale behind a change goes -/
def Env.stale (ρ : Env) : Env := ρ.map fun o => match o with
  | some (.bor d k) => if k = 0 then some (.bor d 0) else none
  | t => t
def T.frz : T → T
  | .fl ds => .bor (.lst ds) 0
  | .fd t kvs => .bor (.dct t kvs) 0
  | t => t
def Env.frzAt (ρ : Env) : List Nat → Env
  | [] => ρ
  | i :: is => Env.frzAt (match ρ[i]? with | some (some t) => ρ.set i (some t.frz) | _ => ρ) is
def Env.frz (ρ : Env) : Env := Env.frzAt ρ (List.range ρ.length)
def setN (l : List (Option T)) (i : Int) (d : D) (ds : List D) : R T :=
  match ixN ds.length i with
  | some j => .ok (.fl (ds.set j d))
  | none => .fail
section
variable (C : Nat → D) (Γ : Fns) (sub : Str → Str → Option Bool)
/-- a value, of one's own or not -/
def evT : Bool → E → Env → R T
  | true, .lst as _, ρ => do
    let xs ← evAs C Γ as ρ
    if maxLv xs = 0 ∧ xs.length ≤ sizeLine then .ok (.fl (xs.map (·.1))) else .fail
  | true, .dic0 t _, _ => .ok (.fd t [])
  | true, _, _ => .fail
  | false, e, ρ => do
    let x ← evE C Γ e ρ
    .ok (.bor x.1 x.2)
def evTs : List Nm → List E → Env → R (List T)
  | [], [], _ => .ok []
  | n :: ns, e :: es, ρ => do
    let t ← evT C Γ n.own e ρ
    let ts ← evTs ns es ρ
    .ok (t :: ts)
  | _, _, _ => .fail
def setTs : List Nm → List T → Env → Env
  | n :: ns, t :: ts, ρ => setTs ns ts (ρ.set n.i (some t))
  | _, _, ρ => ρ
/-- items whose source stays what it is -/
def evI0 : I → Env → R (List DL)
  | .ex e, ρ => do
    let x ← evE C Γ e ρ
    match x with
    | (d, 0) => itemsOf (d, 0)
    | _ => .fail
  | .enu e _ _, ρ => do
    let x ← evE C Γ e ρ
    match x with
    | (.lst ds, 0) => .ok (enumI 0 (ds.map fun d => (d, 0)))
    | _ => .fail
  | .zip a b _ _, ρ => do
    let x ← evE C Γ a ρ
    let y ← evE C Γ b ρ
    match x, y with
    | (d, 0), (d', 0) => do
      let xs ← itemsOf (d, 0)
      let ys ← itemsOf (d', 0)
      .ok (zipI xs ys)
    | _, _ => .fail
  | .rg1 a _ _, ρ => do
    let n ← asI (evE C Γ a ρ)
    if small62 n then .ok (rangeI 0 n.toNat) else .fail
  | .rg2 a b _ _, ρ => do
    let m ← asI (evE C Γ a ρ)
    let n ← asI (evE C Γ b ρ)
    if small62 m && small62 n then .ok (rangeI m (n - m).toNat) else .fail
def forLoop (bind : D → Nat → Env → Option Env) (body : Env → R O) : List DL → Env → R O
  | [], ρ => .ok (.nx ρ)
  | x :: xs, ρ => match bind x.1 x.2 ρ with
    | none => .fail
    | some ρ' => match body ρ' with
      | .ok (.nx ρ2) => forLoop bind body xs ρ2
      | .ok (.ct ρ2) => forLoop bind body xs ρ2
      | .ok (.bk ρ2) => .ok (.nx ρ2)
      | .ok (.rt d) => .ok (.rt d)
      | .exc c a => .exc c a
      | .fail => .fail
mutual
def evHE : HE → D → D
  | .at _ _ _ _, d => d
  | .non _ _, _ => .non
  | .bl b _ _, _ => .bl b
  | .int n _ _, _ => .int n
  | .str s _ _, _ => .str s
  | .tup es _ _, d => .tup (evHEs es d)
def evHEs : List HE → D → List D
  | [], _ => []
  | e :: es, d => evHE e d :: evHEs es d
end
def evHds : List Hd → Str → D → R O
  | [], c, a => .exc c a
  | h :: hs, c, a => match sub c h.c with
    | some true => .ok (.rt (evHE h.e a))
    | some false => evHds hs c a
    | none => .fail
mutual
def evS : S → Env → R O
  | .set n e _, ρ => do
    let t ← evT C Γ n.own e ρ
    .ok (.nx (ρ.set n.i (some t)))
  | .unp t e _, ρ => do
    let x ← evE C Γ e ρ
    match t.bind x.1 x.2 ρ with
    | some ρ' => .ok (.nx ρ')
    | none => .fail
  | .par ns es _ _ _ _ _, ρ => do
    let ts ← evTs C Γ ns es ρ
    .ok (.nx (setTs ns ts ρ))
  | .put n i v _ _, ρ => match ρ[n.i]? with
    | some (some (.fl ds)) => do
      let x ← evE C Γ v ρ
      let y ← evE C Γ i ρ
      match x, y with
      | (d, 0), (.int k, _) => match ixN ds.length k with
        | some j => .ok (.nx (Env.stale (ρ.set n.i (some (.fl (ds.set j d))))))
        | none => .fail
      | _, _ => .fail
    | some (some (.fd false kvs)) => do
      let x ← evE C Γ v ρ
      let y ← evE C Γ i ρ
      match x with
      | (d, 0) => if y.1.key.isSome ∧ kvs.length < 1000000 then .ok (.nx (Env.stale (ρ.set n.i (some (.fd false (dput kvs y.1 d)))))) else .fail
      | _ => .fail
    | _ => .fail
  | .app n e _ _ _, ρ => match ρ[n.i]? with
    | some (some (.fl ds)) => do
      let x ← evE C Γ e ρ
      match x with
      | (d, 0) => if ds.length < 1000000 then .ok (.nx (Env.stale (ρ.set n.i (some (.fl (ds ++ [d])))))) else .fail
      | _ => .fail
    | _ => .fail
  | .exp e _, ρ => do
    let _ ← evE C Γ e ρ
    .ok (.nx ρ)
  | .ret e _, ρ => do
    let x ← evE C Γ e (Env.frz ρ)
    match x with
    | (d, 0) => .ok (.rt d)
    | _ => .fail
  | .ifs c a b _, ρ => do
    let k ← (evE C Γ c ρ >>= truD)
    match k with
    | true => evSs a ρ
    | false => evSs b ρ
  | .forr t it b _, ρ => do
    let xs ← evI0 C Γ it ρ
    forLoop t.bind (fun ρ' => evSs b ρ') xs ρ
  | .rse c e _ _ _, ρ => do
    let x ← evE C Γ e ρ
    match x with
    | (d, 0) => .exc c d
    | _ => .fail
  | .tri b hs _, ρ => match evSs b ρ with
    | .exc c a => evHds sub hs c a
    | r => r
  | .frz is, ρ => .ok (.nx (Env.frzAt ρ is))
def evSs : List S → Env → R O
  | [], ρ => .ok (.nx ρ)
  | s :: ss, ρ => do
    match (← evS s ρ) with
    | .nx ρ' => evSs ss ρ'
    | r => .ok r
end
end

/-! ### states -/
/-- what stands at an owned slot's address -/
def OwnAt (R : RE) (o : HO) : T → Prop
  | .fl ds => ∃ vs, o = .lst vs ∧ Reps R 0 ds vs
  | .fd false kvs => ∃ (ks : List Key) (vs : List V), o = .dK (ks.zip vs) ∧ ks.length = vs.length ∧ RepK R 0 kvs ks vs
  | .fd true kvs => ∃ (ks : List (List Key)) (vs : List V), o = .dT (ks.zip vs) ∧ ks.length = vs.length ∧ RepT R 0 kvs ks vs
  | _ => False
structure StR (X : Cx) (R0 : RE) (H0 : Hp) (Rb : RE) (ρ : Env) (σ : L2.St) (R : RE) (H : Hp) : Prop where
  rel : Rel R ρ σ
  rin : RIn R H
  eK : R.K = X.K
  ew : R.w = X.w
  rin0 : RIn R0 H0
  post : Post R0 H0 R H
  bx : REx Rb R
  bG : ∀ a u, Rb.G a = some u → Rb.F a = some u
  own : ∀ (i : Nat) (t : T), ρ[i]? = some (some t) → t.owned = true → ∃ a o, σ[i]? = some (some (.ref a)) ∧ OwnAt R o t ∧ R.G a = some o ∧ H a = some o ∧ R.F a = none ∧ H0 a = none ∧
    ∀ (j : Nat) (u : T), j ≠ i → ρ[j]? = some (some u) → u.owned = true → σ[j]? ≠ some (some (.ref a))
def FinS (X : Cx) (W : WX) (R0 : RE) (H0 : Hp) (Rb : RE) (r : R O) (E : Ends) : Prop :=
  match r with
  | .ok (.nx ρ) => ∀ σ R H, StR X R0 H0 Rb ρ σ R H → E.nx σ H
  | .ok (.bk ρ) => ∀ σ R H, StR X R0 H0 Rb ρ σ R H → E.bk σ H
  | .ok (.ct ρ) => ∀ σ R H, StR X R0 H0 Rb ρ σ R H → E.ct σ H
  | .ok (.rt d) => ∀ v R H, Post R0 H0 R H → Rep R 0 d v → E.rt v H
  | .exc c a => ∀ σ R H, Post R0 H0 R H → Exq X W σ R H c a
  | .fail => False
def WSs (X : Cx) (ss : List Stmt) (E : Ends) (σ : L2.St) (H : Hp) : Prop := ∀ pins s, Inv X pins σ H s → wpAny (model X.prog X.w) X.A (execs ss X.env) (SP X pins E) X.xe s
def WS1 (X : Cx) (st : Stmt) (E : Ends) (σ : L2.St) (H : Hp) : Prop := ∀ pins s, Inv X pins σ H s → wpAny (model X.prog X.w) X.A (exec st X.env) (SP X pins E) X.xe s
section
variable {X : Cx} {st : Stmt} {ss : List Stmt} {E : Ends} {σ : L2.St} {H : Hp}
theorem pss_ws (ss : List Stmt) : PSs X ss (WSs X ss) := ⟨fun pins s σ H D I h => h pins s I⟩
theorem ps_ws (st : Stmt) : PS X st (WS1 X st) := ⟨fun pins s σ H D I h => h pins s I⟩
theorem WSs.of {t : TS} (h : PSs X ss t) (q : t E σ H) : WSs X ss E σ H := fun pins s I => h.run pins s σ H E I q
theorem WS1.of {t : TS} (h : PS X st t) (q : t E σ H) : WS1 X st E σ H := fun pins s I => h.run pins s σ H E I q
end
mutual
/-- what is frozen leans on the frozen heap alone -/
theorem rep_f0 {R R' : RE} (eK : R'.K = R.K) (ew : R'.w = R.w) (f : ∀ a u, R.F a = some u → R'.F a = some u) (μ : ∀ n a, R.μ n = some a → R'.μ n = some a) (S : ∀ a n, R.S a n → R'.S a n) : ∀ (d : D) (v : V), Rep R 0 d v → Rep R' 0 d v
  | .non, v, h => h
  | .bl b, v, h => h
  | .int i, v, h => h
  | .str s, v, h => h
  | .tup xs, v, h => by
    obtain ⟨a, vs, e, t, r⟩ := h
    refine ⟨a, vs, e, ?_, reps_f0 eK ew f μ S xs vs r⟩
    rcases t with t | t
    · exact .inl (f a _ t)
    · exact .inr (by rw [eK]; exact t)
  | .lst xs, v, h => by
    obtain ⟨a, vs, e, t, r⟩ := h
    exact ⟨a, vs, e, f a _ t, reps_f0 eK ew f μ S xs vs r⟩
  | .dct false kvs, v, h => by
    obtain ⟨a, vs, e, ks, t, l, r⟩ := h
    refine ⟨a, vs, e, ks, ?_, l, repK_f0 eK ew f μ S kvs ks vs r⟩
    rcases t with t | t
    · exact .inl (f a _ t)
    · exact .inr (by rw [eK, ew]; exact t)
  | .dct true kvs, v, h => by
    obtain ⟨a, vs, e, ks, t, l, r⟩ := h
    exact ⟨a, vs, e, ks, f a _ t, l, repT_f0 eK ew f μ S kvs ks vs r⟩
  | .obj n, v, h => by
    obtain ⟨a, e, t⟩ := h
    exact ⟨a, e, μ n a t⟩
  | .scr n, v, h => by
    obtain ⟨a, e, t⟩ := h
    exact ⟨a, e, S a n t⟩
theorem reps_f0 {R R' : RE} (eK : R'.K = R.K) (ew : R'.w = R.w) (f : ∀ a u, R.F a = some u → R'.F a = some u) (μ : ∀ n a, R.μ n = some a → R'.μ n = some a) (S : ∀ a n, R.S a n → R'.S a n) : ∀ (ds : List D) (vs : List V), Reps R 0 ds vs → Reps R' 0 ds vs
  | [], vs, h => h
  | d :: ds, vs, h => by
    obtain ⟨v, r, e, h1, h2⟩ := h
    exact ⟨v, r, e, rep_f0 eK ew f μ S d v h1, reps_f0 eK ew f μ S ds r h2⟩
theorem repK_f0 {R R' : RE} (eK : R'.K = R.K) (ew : R'.w = R.w) (f : ∀ a u, R.F a = some u → R'.F a = some u) (μ : ∀ n a, R.μ n = some a → R'.μ n = some a) (S : ∀ a n, R.S a n → R'.S a n) : ∀ (ds : List (D × D)) (ks : List Key) (vs : List V), RepK R 0 ds ks vs → RepK R' 0 ds ks vs
  | [], ks, vs, h => h
  | (y, d) :: ds, ks, vs, h => by
    obtain ⟨q, v, qs, r, e1, e2, e3, h1, h2⟩ := h
    exact ⟨q, v, qs, r, e1, e2, e3, rep_f0 eK ew f μ S d v h1, repK_f0 eK ew f μ S ds qs r h2⟩
theorem repT_f0 {R R' : RE} (eK : R'.K = R.K) (ew : R'.w = R.w) (f : ∀ a u, R.F a = some u → R'.F a = some u) (μ : ∀ n a, R.μ n = some a → R'.μ n = some a) (S : ∀ a n, R.S a n → R'.S a n) : ∀ (ds : List (D × D)) (ks : List (List Key)) (vs : List V), RepT R 0 ds ks vs → RepT R' 0 ds ks vs
  | [], ks, vs, h => h
  | (y, d) :: ds, ks, vs, h => by
    obtain ⟨q, v, qs, r, e1, e2, e3, h1, h2⟩ := h
    exact ⟨q, v, qs, r, e1, e2, e3, rep_f0 eK ew f μ S d v h1, repT_f0 eK ew f μ S ds qs r h2⟩
end
theorem OwnAt.f0 {R R' : RE} (eK : R'.K = R.K) (ew : R'.w = R.w) (f : ∀ a u, R.F a = some u → R'.F a = some u) (μ : ∀ n a, R.μ n = some a → R'.μ n = some a) (S : ∀ a n, R.S a n → R'.S a n) {o : HO} {t : T} (h : OwnAt R o t) : OwnAt R' o t := by
  cases t with
  | bor d k => exact h.elim
  | fl ds => obtain ⟨vs, e, r⟩ := h; exact ⟨vs, e, reps_f0 eK ew f μ S ds vs r⟩
  | fd b kvs =>
    cases b with
    | false => obtain ⟨ks, vs, e, l, r⟩ := h; exact ⟨ks, vs, e, l, repK_f0 eK ew f μ S kvs ks vs r⟩
    | true => obtain ⟨ks, vs, e, l, r⟩ := h; exact ⟨ks, vs, e, l, repT_f0 eK ew f μ S kvs ks vs r⟩
  | ol ts => exact h.elim
  | od b kvs => exact h.elim
theorem OwnAt.rep {R : RE} {o : HO} {t : T} {a : Addr} (h : OwnAt R o t) (g : R.G a = some o) : Rep R t.lvl t.toD (.ref a) := by
  cases t with
  | bor d k => exact h.elim
  | fl ds => obtain ⟨vs, rfl, r⟩ := h; exact ⟨a, vs, rfl, g, r⟩
  | fd b kvs =>
    cases b with
    | false => obtain ⟨ks, vs, rfl, l, r⟩ := h; exact ⟨a, vs, rfl, ks, .inl g, l, r⟩
    | true => obtain ⟨ks, vs, rfl, l, r⟩ := h; exact ⟨a, vs, rfl, ks, g, l, r⟩
  | ol ts => exact h.elim
  | od b kvs => exact h.elim
/-- .. frozen -/
theorem OwnAt.frz {R : RE} {o : HO} {t : T} {a : Addr} (h : OwnAt R o t) (g : R.F a = some o) : Rep R t.frz.lvl t.frz.toD (.ref a) ∧ t.frz.owned = false := by
  cases t with
  | bor d k => exact h.elim
  | fl ds => obtain ⟨vs, rfl, r⟩ := h; exact ⟨⟨a, vs, rfl, g, r⟩, rfl⟩
  | fd b kvs =>
    cases b with
    | false => obtain ⟨ks, vs, rfl, l, r⟩ := h; exact ⟨⟨a, vs, rfl, ks, .inl g, l, r⟩, rfl⟩
    | true => obtain ⟨ks, vs, rfl, l, r⟩ := h; exact ⟨⟨a, vs, rfl, ks, g, l, r⟩, rfl⟩
  | ol ts => exact h.elim
  | od b kvs => exact h.elim

section
variable {X : Cx} {R0 Rb R R1 : RE} {H0 H H1 : Hp} {ρ : Env} {σ : L2.St}
/-- behind an expression -/
theorem StR.after (h : StR X R0 H0 Rb ρ σ R H) (p : Post R H R1 H1) : StR X R0 H0 Rb ρ σ R1 H1 := by
  refine ⟨h.rel.ext p.ex, p.rin, p.ex.K.trans h.eK, p.ex.w.trans h.ew, h.rin0, h.post.trans p, h.bx.trans p.ex, h.bG, fun i t e w => ?_⟩
  obtain ⟨a, o, e1, e2, e3, e4, e5, e6, e7⟩ := h.own i t e w
  refine ⟨a, o, e1, e2.f0 p.ex.K p.ex.w p.ex.F p.ex.μ p.ex.S, p.ex.G a o e3, p.same a o e4, ?_, e6, e7⟩
  cases q : R1.F a with
  | none => rfl
  | some u =>
    rcases p.freshF a u q with z | z
    · rw [e5] at z; cases z
    · rw [e4] at z; cases z
theorem get_set {α : Type} {l : List α} {i j : Nat} {x y : α} (h : (l.set i x)[j]? = some y) : (j = i ∧ y = x ∧ i < l.length) ∨ (j ≠ i ∧ l[j]? = some y) := by
  by_cases e : i = j
  · subst e
    by_cases hl : i < l.length
    · rw [List.getElem?_set_self hl] at h
      cases h
      exact .inl ⟨rfl, rfl, hl⟩
    · rw [List.getElem?_eq_none (by rw [List.length_set]; omega)] at h
      cases h
  · rw [List.getElem?_set_ne e] at h
    exact .inr ⟨Ne.symm e, h⟩
/-- a slot takes a value that is not one's own -/
theorem StR.set (h : StR X R0 H0 Rb ρ σ R H) {i : Nat} {t : T} {v : V} (r : Rep R t.lvl t.toD v) (no : t.owned = false) : StR X R0 H0 Rb (ρ.set i (some t)) (σ.set i (some v)) R H := by
  refine ⟨h.rel.set r, h.rin, h.eK, h.ew, h.rin0, h.post, h.bx, h.bG, fun j u e w => ?_⟩
  rcases get_set e with ⟨_, e', _⟩ | ⟨ne, e'⟩
  · cases e'; rw [no] at w; cases w
  · obtain ⟨a, o, e1, e2, e3, e4, e5, e6, e7⟩ := h.own j u e' w
    refine ⟨a, o, by rw [List.getElem?_set_ne (Ne.symm ne)]; exact e1, e2, e3, e4, e5, e6, fun k z nk ek wk => ?_⟩
    rcases get_set ek with ⟨_, ek', _⟩ | ⟨nk', ek'⟩
    · cases ek'; rw [no] at wk; cases wk
    · rw [List.getElem?_set_ne (Ne.symm nk')]; exact e7 k z nk ek' wk
/-- a slot takes what is its own -/
theorem StR.setO (h : StR X R0 H0 Rb ρ σ R H) {i : Nat} {t : T} {a : Addr} {o : HO} (r : OwnAt R o t) (g : R.G a = some o) (hH : H a = some o) (hF : R.F a = none) (h0 : H0 a = none)
    (ne : ∀ (j : Nat) (u : T), j ≠ i → ρ[j]? = some (some u) → u.owned = true → σ[j]? ≠ some (some (.ref a))) : StR X R0 H0 Rb (ρ.set i (some t)) (σ.set i (some (.ref a))) R H := by
  refine ⟨h.rel.set (r.rep g), h.rin, h.eK, h.ew, h.rin0, h.post, h.bx, h.bG, fun j u e w => ?_⟩
  rcases get_set e with ⟨rfl, e', hl⟩ | ⟨nj, e'⟩
  · cases e'
    refine ⟨a, o, by rw [List.getElem?_set_self (by rw [← h.rel.len]; exact hl)], r, g, hH, hF, h0, fun k z nk ek wk => ?_⟩
    rcases get_set ek with ⟨ek1, _, _⟩ | ⟨nk', ek'⟩
    · exact absurd ek1 nk
    · rw [List.getElem?_set_ne (Ne.symm nk')]; exact ne k z nk ek' wk
  · obtain ⟨b, o2, e1, e2, e3, e4, e5, e6, e7⟩ := h.own j u e' w
    refine ⟨b, o2, by rw [List.getElem?_set_ne (Ne.symm nj)]; exact e1, e2, e3, e4, e5, e6, fun k z nk ek wk => ?_⟩
    rcases get_set ek with ⟨rfl, ek', hl⟩ | ⟨nk', ek'⟩
    · rw [List.getElem?_set_self (by rw [← h.rel.len]; exact hl)]
      intro q
      have q2 : a = b := by
        have := Option.some.inj q
        have := Option.some.inj this
        exact V.ref.inj this
      subst q2
      exact ne j u nj e' w e1
    · rw [List.getElem?_set_ne (Ne.symm nk')]; exact e7 k z nk ek' wk
/-- an owned slot is frozen -/
theorem StR.frz1 (h : StR X R0 H0 Rb ρ σ R H) {i : Nat} {t : T} (e : ρ[i]? = some (some t)) : ∃ R', StR X R0 H0 Rb (ρ.set i (some t.frz)) σ R' H ∧ REx R R' := by
  cases w : t.owned with
  | false =>
    have et : t.frz = t := by cases t <;> first | rfl | cases w
    rw [et]
    have : ρ.set i (some t) = ρ := by
      obtain ⟨hl, e'⟩ := List.getElem?_eq_some_iff.mp e
      rw [← e']; exact List.set_getElem_self hl
    rw [this]
    exact ⟨R, h, .refl R⟩
  | true =>
    obtain ⟨a, o, e1, e2, e3, e4, e5, e6, e7⟩ := h.own i t e w
    have ex : REx R { R with F := upd R.F a o } := ⟨rfl, rfl, upd_keeps e5, fun _ _ z => z, fun _ _ z => z, fun _ _ z => z, fun _ _ z => z⟩
    have fs : (upd R.F a o) a = some o := upd_same
    refine ⟨{ R with F := upd R.F a o }, ⟨?_, ⟨?_, h.rin.sub, h.rin.scr⟩, h.eK, h.ew, h.rin0, ⟨h.post.ex.trans ex, ⟨?_, h.rin.sub, h.rin.scr⟩, h.post.same, h.post.fresh, ?_⟩, h.bx.trans ex, h.bG, ?_⟩, ex⟩
    · have rr := (OwnAt.frz (R := { R with F := upd R.F a o }) (OwnAt.f0 (R := R) (R' := { R with F := upd R.F a o }) rfl rfl ex.F (fun _ _ z => z) (fun _ _ z => z) e2) (a := a) fs).1
      refine ⟨by rw [List.length_set]; exact h.rel.len, fun j u ej => ?_⟩
      rcases get_set ej with ⟨rfl, ej', _⟩ | ⟨nj, ej'⟩
      · cases ej'; exact ⟨.ref a, e1, rr⟩
      · obtain ⟨v, z1, z2⟩ := h.rel.at_ j u ej'
        exact ⟨v, z1, z2.ext ex⟩
    · intro b u eb
      by_cases hb : b = a
      · subst hb; rw [show ({ R with F := upd R.F b o } : RE).F b = some o from upd_same] at eb; cases eb; exact e3
      · rw [show ({ R with F := upd R.F a o } : RE).F b = R.F b from upd_ne hb] at eb; exact h.rin.inn b u eb
    · intro b u eb
      by_cases hb : b = a
      · subst hb; rw [show ({ R with F := upd R.F b o } : RE).F b = some o from upd_same] at eb; cases eb; exact e3
      · rw [show ({ R with F := upd R.F a o } : RE).F b = R.F b from upd_ne hb] at eb; exact h.rin.inn b u eb
    · intro b u eb
      by_cases hb : b = a
      · exact .inr (by rw [hb]; exact e6)
      · rw [show ({ R with F := upd R.F a o } : RE).F b = R.F b from upd_ne hb] at eb; exact h.post.freshF b u eb
    · intro j u ej wj
      rcases get_set ej with ⟨_, ej', _⟩ | ⟨nj, ej'⟩
      · cases ej'
        rw [(OwnAt.frz (R := { R with F := upd R.F a o }) (OwnAt.f0 (R := R) (R' := { R with F := upd R.F a o }) rfl rfl ex.F (fun _ _ z => z) (fun _ _ z => z) e2) (a := a) fs).2] at wj
        cases wj
      · obtain ⟨b, o2, f1, f2, f3, f4, f5, f6, f7⟩ := h.own j u ej' wj
        have nb : b ≠ a := fun z => e7 j u nj ej' wj (by rw [f1, z])
        refine ⟨b, o2, f1, OwnAt.f0 (R := R) (R' := { R with F := upd R.F a o }) rfl rfl ex.F (fun _ _ z => z) (fun _ _ z => z) f2, f3, f4, by rw [show ({ R with F := upd R.F a o } : RE).F b = R.F b from upd_ne nb]; exact f5, f6, fun k z nk ek wk => ?_⟩
        rcases get_set ek with ⟨_, ek', _⟩ | ⟨nk', ek'⟩
        · cases ek'
          rw [(OwnAt.frz (R := { R with F := upd R.F a o }) (OwnAt.f0 (R := R) (R' := { R with F := upd R.F a o }) rfl rfl ex.F (fun _ _ z => z) (fun _ _ z => z) e2) (a := a) fs).2] at wk
          cases wk
        · exact f7 k z nk ek' wk
theorem StR.frzs : ∀ (is : List Nat) {ρ : Env} {R : RE}, StR X R0 H0 Rb ρ σ R H → ∃ R', StR X R0 H0 Rb (Env.frzAt ρ is) σ R' H ∧ REx R R'
  | [], ρ, R, h => ⟨R, h, .refl R⟩
  | i :: is, ρ, R, h => by
    unfold Env.frzAt
    split
    · rename_i t e
      obtain ⟨R1, h1, x1⟩ := h.frz1 e
      obtain ⟨R2, h2, x2⟩ := StR.frzs is h1
      exact ⟨R2, h2, x1.trans x2⟩
    · exact StR.frzs is h
theorem stale_get {ρ : Env} {j : Nat} {t : T} (h : (Env.stale ρ)[j]? = some (some t)) : ρ[j]? = some (some t) ∧ (t.owned = true ∨ ∃ d, t = .bor d 0) := by
  unfold Env.stale at h
  obtain ⟨o, e, q⟩ := get_map h
  cases o with
  | none => cases q
  | some u =>
    cases u with
    | bor d k =>
      simp only at q
      split at q
      · rename_i hk; subst hk; cases q; exact ⟨e, .inr ⟨d, rfl⟩⟩
      · cases q
    | fl ds => cases q; exact ⟨e, .inl rfl⟩
    | fd b kvs => cases q; exact ⟨e, .inl rfl⟩
    | ol ts => cases q; exact ⟨e, .inl rfl⟩
    | od b kvs => cases q; exact ⟨e, .inl rfl⟩
/-- an owned slot's object changes -/
theorem StR.mut (h : StR X R0 H0 Rb ρ σ R H) {i : Nat} {t t' : T} {a : Addr} {o o' : HO} (e : ρ[i]? = some (some t)) (w : t.owned = true) (ea : σ[i]? = some (some (.ref a))) (w' : t'.owned = true) (r : OwnAt R o' t')
    (g : R.G a = some o) (hF : R.F a = none) (h0 : H0 a = none) (ne : ∀ (j : Nat) (u : T), j ≠ i → ρ[j]? = some (some u) → u.owned = true → σ[j]? ≠ some (some (.ref a))) :
    StR X R0 H0 Rb (Env.stale (ρ.set i (some t'))) σ { R with G := upd R.G a o' } (upd H a o') := by
  have nF : ∀ b u, R.F b = some u → b ≠ a := fun b u q z => by rw [z, hF] at q; cases q
  have inn : RE.In { R with G := upd R.G a o' } := fun b u q => by
    show upd R.G a o' b = some u
    rw [upd_ne (nF b u q)]; exact h.rin.inn b u q
  have rin : RIn { R with G := upd R.G a o' } (upd H a o') := by
    refine ⟨inn, fun b u q => ?_, fun b ns q => ?_⟩
    · by_cases hb : b = a
      · subst hb
        rw [show ({ R with G := upd R.G b o' } : RE).G b = some o' from upd_same] at q
        cases q
        exact .inl upd_same
      · rw [show ({ R with G := upd R.G a o' } : RE).G b = R.G b from upd_ne hb] at q
        rcases h.rin.sub b u q with z | ⟨ob, z, y⟩
        · exact .inl (by rw [upd_ne hb]; exact z)
        · exact .inr ⟨ob, by rw [upd_ne hb]; exact z, y⟩
    · have s0 := h.rin0.scr b ns (h.post.ex.S' b ns q)
      have k0 : R.K = R0.K := h.post.ex.K
      show SqL R.K (upd H a o') b _
      rw [k0]
      refine Same.seq (fun c u qc => ?_) s0
      have nc : c ≠ a := fun z => by rw [z, h0] at qc; cases qc
      rw [upd_ne nc]; exact h.post.same c u qc
  have own' : OwnAt { R with G := upd R.G a o' } o' t' := OwnAt.f0 (R := R) (R' := { R with G := upd R.G a o' }) rfl rfl (fun _ _ z => z) (fun _ _ z => z) (fun _ _ z => z) r
  refine ⟨⟨?_, fun j u ej => ?_⟩, rin, h.eK, h.ew, h.rin0, ⟨⟨h.post.ex.K, h.post.ex.w, h.post.ex.F, fun b u q => ?_, h.post.ex.μ, h.post.ex.S, h.post.ex.S'⟩, rin, fun b u q => ?_, fun b u q => ?_, h.post.freshF⟩,
    ⟨h.bx.K, h.bx.w, h.bx.F, fun b u q => inn b u (h.bx.F b u (h.bG b u q)), h.bx.μ, h.bx.S, h.bx.S'⟩, h.bG, fun j u ej wj => ?_⟩
  · unfold Env.stale; rw [List.length_map, List.length_set]; exact h.rel.len
  · obtain ⟨ej1, ej2⟩ := stale_get ej
    rcases get_set ej1 with ⟨rfl, ej', _⟩ | ⟨nj, ej'⟩
    · cases ej'
      exact ⟨.ref a, ea, own'.rep upd_same⟩
    · rcases ej2 with wj | ⟨d, rfl⟩
      · obtain ⟨b, o2, f1, f2, f3, f4, f5, f6, f7⟩ := h.own j u ej' wj
        have nb : b ≠ a := fun z => ne j u nj ej' wj (by rw [f1, z])
        exact ⟨.ref b, f1, OwnAt.rep (OwnAt.f0 (R := R) (R' := { R with G := upd R.G a o' }) rfl rfl (fun _ _ z => z) (fun _ _ z => z) (fun _ _ z => z) f2) (by show upd R.G a o' b = _; rw [upd_ne nb]; exact f3)⟩
      · obtain ⟨v, z1, z2⟩ := h.rel.at_ j _ ej'
        exact ⟨v, z1, rep_f0 (R := R) (R' := { R with G := upd R.G a o' }) rfl rfl (fun _ _ z => z) (fun _ _ z => z) (fun _ _ z => z) d v z2⟩
  · have nb : b ≠ a := fun z => by
      obtain ⟨ob, q2⟩ := Rd.some (h.rin0.sub b u q).rd
      rw [z, h0] at q2; cases q2
    show upd R.G a o' b = some u
    rw [upd_ne nb]; exact h.post.ex.G b u q
  · have nb : b ≠ a := fun z => by rw [z, h0] at q; cases q
    rw [upd_ne nb]; exact h.post.same b u q
  · by_cases hb : b = a
    · exact .inr (by rw [hb]; exact h0)
    · rw [show ({ R with G := upd R.G a o' } : RE).G b = R.G b from upd_ne hb] at q; exact h.post.fresh b u q
  · obtain ⟨ej1, ej2⟩ := stale_get ej
    rcases get_set ej1 with ⟨rfl, ej', _⟩ | ⟨nj, ej'⟩
    · cases ej'
      refine ⟨a, o', ea, own', upd_same, upd_same, hF, h0, fun k z nk ek wk => ?_⟩
      obtain ⟨ek1, _⟩ := stale_get ek
      rcases get_set ek1 with ⟨ek2, _, _⟩ | ⟨_, ek'⟩
      · exact absurd ek2 nk
      · exact ne k z nk ek' wk
    · obtain ⟨b, o2, f1, f2, f3, f4, f5, f6, f7⟩ := h.own j u ej' wj
      have nb : b ≠ a := fun z => ne j u nj ej' wj (by rw [f1, z])
      refine ⟨b, o2, f1, OwnAt.f0 (R := R) (R' := { R with G := upd R.G a o' }) rfl rfl (fun _ _ z => z) (fun _ _ z => z) (fun _ _ z => z) f2, by show upd R.G a o' b = _; rw [upd_ne nb]; exact f3, by rw [upd_ne nb]; exact f4, f5, f6, fun k z nk ek wk => ?_⟩
      obtain ⟨ek1, _⟩ := stale_get ek
      rcases get_set ek1 with ⟨rfl, ek', _⟩ | ⟨_, ek'⟩
      · cases ek'
        rw [ea]
        intro q
        have q2 : a = b := V.ref.inj (Option.some.inj (Option.some.inj q))
        exact nb q2.symm
      · exact f7 k z nk ek' wk
end
end Ev
set_option Elab.async false
set_option linter.all false
set_option maxRecDepth 100000
set_option maxHeartbeats 1000000
/-! Ev20: values for slots, bindings, items: with what is one's own. -/
namespace Ev
open PySem PySem.Spec PyProof.Rows L2
def rT (R : RE) (H Hs : Hp) (t : T) (v : V) : Prop :=
  match t.owned with
  | true => ∃ a o, v = .ref a ∧ OwnAt R o t ∧ R.G a = some o ∧ H a = some o ∧ R.F a = none ∧ Hs a = none
  | false => Rep R t.lvl t.toD v
theorem rT.after {R R1 : RE} {H H1 Hs : Hp} {t : T} {v : V} (h : rT R H Hs t v) (p : Post R H R1 H1) : rT R1 H1 Hs t v := by
  unfold rT at h ⊢
  cases w : t.owned with
  | false => rw [w] at h; exact Rep.ext p.ex _ _ _ h
  | true =>
    rw [w] at h
    obtain ⟨a, o, e1, e2, e3, e4, e5, e6⟩ := h
    refine ⟨a, o, e1, e2.f0 p.ex.K p.ex.w p.ex.F p.ex.μ p.ex.S, p.ex.G a o e3, p.same a o e4, ?_, e6⟩
    cases q : R1.F a with
    | none => rfl
    | some u =>
      rcases p.freshF a u q with z | z
      · rw [e5] at z; cases z
      · rw [e4] at z; cases z
theorem rT.less {R : RE} {H Hs Hs' : Hp} {t : T} {v : V} (h : rT R H Hs t v) (s : Same Hs' Hs) : rT R H Hs' t v := by
  unfold rT at h ⊢
  cases w : t.owned with
  | false => rw [w] at h; exact h
  | true =>
    rw [w] at h
    obtain ⟨a, o, e1, e2, e3, e4, e5, e6⟩ := h
    exact ⟨a, o, e1, e2, e3, e4, e5, s.free e6⟩
def rTs (R : RE) (H Hs : Hp) : List T → List V → Prop
  | [], vs => vs = []
  | t :: ts, vs => ∃ v r, vs = v :: r ∧ rT R H Hs t v ∧ rTs R H Hs ts r ∧ (t.owned = true → ∀ (j : Nat) (u : T), ts[j]? = some u → u.owned = true → r[j]? ≠ some v)
theorem rTs.less {R : RE} {H Hs Hs' : Hp} (s : Same Hs' Hs) : ∀ {ts : List T} {vs : List V}, rTs R H Hs ts vs → rTs R H Hs' ts vs
  | [], _, h => h
  | t :: ts, _, h => by
    obtain ⟨v, r, e, h1, h2, h3⟩ := h
    exact ⟨v, r, e, h1.less s, rTs.less s h2, h3⟩
theorem rTs.get {R : RE} {H Hs : Hp} : ∀ {ts : List T} {vs : List V} {j : Nat} {u : T}, rTs R H Hs ts vs → ts[j]? = some u → ∃ v, vs[j]? = some v ∧ rT R H Hs u v
  | [], _, _, _, _, e => by simp at e
  | t :: ts, _, j, u, h, e => by
    obtain ⟨v, r, rfl, h1, h2, h3⟩ := h
    cases j with
    | zero => simp at e; subst e; exact ⟨v, rfl, h1⟩
    | succ j => exact rTs.get (j := j) h2 (by simpa using e)
section
variable {C : Nat → D} {Γ : Fns} {cn fn : Nat → Str}
def FinT (X : Cx) (W : WX) (σ : L2.St) (R : RE) (H : Hp) (r : Ev.R T) (Q : VK) : Prop :=
  match r with
  | .ok t => ∀ v R' H', Post R H R' H' → rT R' H' H t v → Q v H'
  | .exc c a => Exq X W σ R H c a
  | .fail => False
def FinTs (X : Cx) (W : WX) (σ : L2.St) (R : RE) (H : Hp) (r : Ev.R (List T)) (Q : List V → Hp → Prop) : Prop :=
  match r with
  | .ok ts => ∀ vs R' H', Post R H R' H' → rTs R' H' H ts vs → Q vs H'
  | .exc c a => Exq X W σ R H c a
  | .fail => False
theorem t_ok {own : Bool} {e : E} {X : Cx} {W : WX} {σ : L2.St} {R : RE} {H : Hp} {ρ : Env} {Q : VK} (cd : Cd X W C Γ cn fn σ R H ρ) (ck : e.chk cn fn X.N X.env.scope X.fn = true) (f : FinT X W σ R H (evT C Γ own e ρ) Q) : WE X e.py σ H Q := by
  cases own with
  | false =>
    refine (e_ok e).1 cd ck ?_
    have f : FinT X W σ R H (evE C Γ e ρ >>= fun x => .ok (.bor x.1 x.2)) Q := by rw [evT] at f; exact f
    cases ee : evE C Γ e ρ with
    | ok d => rw [ee] at f; exact fun v R' H' p r => f v R' H' p r
    | exc c a => rw [ee] at f; exact f
    | fail => rw [ee] at f; exact f
  | true =>
    cases e with
    | lst as p =>
      rw [E.chk] at ck
      refine WE.of (pe_lst (pa_wa _)) ?_
      refine (aas_ok as).h cd ck ?_
      have f : FinT X W σ R H (evAs C Γ as ρ >>= fun xs => if maxLv xs = 0 ∧ xs.length ≤ sizeLine then .ok (.fl (xs.map (·.1))) else .fail) Q := by rw [evT] at f; exact f
      cases ee : evAs C Γ as ρ with
      | ok xs =>
        rw [ee] at f
        have f : FinT X W σ R H (if maxLv xs = 0 ∧ xs.length ≤ sizeLine then .ok (.fl (xs.map (·.1))) else .fail) Q := f
        split at f
        · rename_i hc
          intro vs R1 H1 p1 r1
          refine ⟨by rw [← rVs_len r1]; exact hc.2, fun a n => ?_⟩
          refine f _ _ _ (p1.trans (.new p1.rin 1 n)) ?_
          refine ⟨a, .lst vs, rfl, ⟨vs, rfl, ?_⟩, upd_same, upd_same, p1.rin.fnone n, p1.same.free n⟩
          exact reps_f0 (R := R1) (R' := R1.lay 1 a (.lst vs)) rfl rfl (fun _ _ z => z) (fun _ _ z => z) (fun _ _ z => z) _ _ (rVs_reps0 r1 hc.1)
        · exact f.elim
      | exc c a => rw [ee] at f; exact f
      | fail => rw [ee] at f; exact f
    | dic0 t p =>
      rw [evT] at f
      cases t with
      | true =>
        refine WE.of pe_dnewT fun a n => ?_
        exact f _ _ _ (.new cd.rin 1 n) ⟨a, .dT [], rfl, ⟨[], [], rfl, rfl, rfl, rfl⟩, upd_same, upd_same, cd.rin.fnone n, n⟩
      | false =>
        refine WE.of pe_dnewK fun a n => ?_
        exact f _ _ _ (.new cd.rin 1 n) ⟨a, .dK [], rfl, ⟨[], [], rfl, rfl, rfl, rfl⟩, upd_same, upd_same, cd.rin.fnone n, n⟩
    | _ => exact f.elim
theorem FinT.after {X : Cx} {W : WX} {σ : L2.St} {R R1 : RE} {H H1 : Hp} {r : Ev.R T} {Q : VK} (f : FinT X W σ R H r Q) (p : Post R H R1 H1) : FinT X W σ R1 H1 r Q := by
  cases r with
  | ok t => exact fun v R' H' p' r => f v R' H' (p.trans p') (r.less p.same)
  | exc c a => exact Exq.after f p
  | fail => exact f
theorem ts_ok : ∀ {ns : List Nm} {es : List E} {X : Cx} {W : WX} {σ : L2.St} {R : RE} {H : Hp} {ρ : Env} {Q : List V → Hp → Prop}, Cd X W C Γ cn fn σ R H ρ → E.chks cn fn X.N X.env.scope X.fn es = true → FinTs X W σ R H (evTs C Γ ns es ρ) Q → WA X (E.pys es) σ H Q
  | [], [], X, W, σ, R, H, ρ, Q, cd, ck, f => WA.of pa_nil (f [] R H (.refl cd.rin) rfl)
  | n :: ns, e :: es, X, W, σ, R, H, ρ, Q, cd, ck, f => by
    simp only [E.chks, Bool.and_eq_true] at ck
    refine WA.of (pa_cons (pe_we _) (pa_wa _) (star_py _ _ _)) ?_
    refine t_ok (own := n.own) (C := C) (Γ := Γ) cd ck.1 ?_
    unfold evTs at f
    cases ee : evT C Γ n.own e ρ with
    | ok t =>
      rw [ee] at f
      intro v R1 H1 p1 r1
      refine ts_ok (ns := ns) (cd.after p1) ck.2 ?_
      cases es' : evTs C Γ ns es ρ with
      | ok ts =>
        rw [es'] at f
        intro vs R2 H2 p2 r2
        refine f (v :: vs) R2 H2 (p1.trans p2) ⟨v, vs, rfl, r1.after p2, r2.less p1.same, fun w j u ej wj => ?_⟩
        obtain ⟨x, ex, rx⟩ := r2.get ej
        rw [ex]
        intro q
        have q : x = v := Option.some.inj q
        subst q
        unfold rT at r1 rx
        rw [w] at r1
        rw [wj] at rx
        obtain ⟨a, o, rfl, _, _, e4, _⟩ := r1
        obtain ⟨b, o2, eb, _, _, _, _, e6⟩ := rx
        cases eb
        rw [e4] at e6; cases e6
      | exc c a => rw [es'] at f; exact Exq.after f p1
      | fail => rw [es'] at f; exact f
    | exc c a => rw [ee] at f; exact f
    | fail => rw [ee] at f; exact f
  | [], _ :: _, _, _, _, _, _, _, _, _, _, f => f.elim
  | _ :: _, [], _, _, _, _, _, _, _, _, _, f => f.elim

def setVs : List Nm → List V → L2.St → L2.St
  | n :: ns, v :: vs, σ => setVs ns vs (σ.set n.i (some v))
  | _, _, σ => σ
theorem StR.put {X : Cx} {R0 Rb R : RE} {H0 H Hs : Hp} {ρ : Env} {σ : L2.St} (h : StR X R0 H0 Rb ρ σ R H) (h0 : ∀ a, Hs a = none → H0 a = none) {i : Nat} {t : T} {v : V} (r : rT R H Hs t v)
    (ne : t.owned = true → ∀ (j : Nat) (u : T), ρ[j]? = some (some u) → u.owned = true → σ[j]? ≠ some (some v)) : StR X R0 H0 Rb (ρ.set i (some t)) (σ.set i (some v)) R H := by
  unfold rT at r
  cases w : t.owned with
  | false => rw [w] at r; exact h.set r w
  | true =>
    rw [w] at r
    obtain ⟨a, o, rfl, e2, e3, e4, e5, e6⟩ := r
    exact h.setO e2 e3 e4 e5 (h0 a e6) fun j u _ ej wj => ne w j u ej wj
theorem setTs_ok {X : Cx} {R0 Rb R : RE} {H0 H Hs : Hp} (h0 : ∀ a, Hs a = none → H0 a = none) : ∀ {ns : List Nm} {ts : List T} {vs : List V} {ρ : Env} {σ : L2.St}, StR X R0 H0 Rb ρ σ R H → rTs R H Hs ts vs →
    (∀ (j : Nat) (u : T), ρ[j]? = some (some u) → u.owned = true → ∀ (k : Nat) (t : T) (v : V), ts[k]? = some t → t.owned = true → vs[k]? = some v → σ[j]? ≠ some (some v)) → ns.length = ts.length → StR X R0 H0 Rb (setTs ns ts ρ) (setVs ns vs σ) R H
  | [], [], _, ρ, σ, h, r, _, _ => by cases r; exact h
  | n :: ns, t :: ts, _, ρ, σ, h, r, sep, l => by
    obtain ⟨v, vs, rfl, r1, r2, r3⟩ := r
    show StR X R0 H0 Rb (setTs ns ts (ρ.set n.i (some t))) (setVs ns vs (σ.set n.i (some v))) R H
    refine setTs_ok h0 (h.put h0 (i := n.i) r1 fun w j u ej wj => sep j u ej wj 0 t v rfl w rfl) r2 (fun j u ej wj k t' v' ek wk ev => ?_) (by simpa using l)
    rcases get_set ej with ⟨rfl, ej', hl⟩ | ⟨nj, ej'⟩
    · cases ej'
      rw [List.getElem?_set_self (by rw [← h.rel.len]; exact hl)]
      intro q
      have q : v = v' := Option.some.inj (Option.some.inj q)
      subst q
      exact r3 wj k t' ek wk ev
    · rw [List.getElem?_set_ne (Ne.symm nj)]
      exact sep j u ej' wj (k + 1) t' v' (by simpa using ek) wk (by simpa using ev)
  | [], _ :: _, _, _, _, _, _, _, l => by cases l
  | _ :: _, [], _, _, _, _, _, _, l => by cases l
theorem sep_of {X : Cx} {R0 Rb R R1 : RE} {H0 H H1 : Hp} {ρ : Env} {σ : L2.St} (h : StR X R0 H0 Rb ρ σ R H) {ts : List T} {vs : List V} (r : rTs R1 H1 H ts vs) (j : Nat) (u : T) (ej : ρ[j]? = some (some u)) (wj : u.owned = true) (k : Nat) (t : T) (v : V) (ek : ts[k]? = some t) (wk : t.owned = true) (ev : vs[k]? = some v) : σ[j]? ≠ some (some v) := by
  obtain ⟨x, ex, rx⟩ := r.get ek
  rw [ev] at ex; cases ex
  obtain ⟨b, o, f1, _, _, f4, _⟩ := h.own j u ej wj
  unfold rT at rx
  rw [wk] at rx
  obtain ⟨a, o2, rfl, _, _, _, _, e6⟩ := rx
  rw [f1]
  intro q
  have q2 : b = a := V.ref.inj (Option.some.inj (Option.some.inj q))
  rw [q2, e6] at f4; cases f4

/-! ### binding with states -/
mutual
theorem tgS_ok {X : Cx} {R0 Rb R : RE} {H0 H : Hp} (calm : X.calm = true) (nd : X.N.Nodup) (vs : List Nat) : ∀ (t : Tg) (d : D) (k : Nat) (ρ ρ' : Env) (σ : L2.St) (v : V) (Q : L2.St → Hp → Prop), t.chk X.N X.env.scope X.fn vs = true → t.bind d k ρ = some ρ' → Rep R k d v → StR X R0 H0 Rb ρ σ R H →
    (∀ σ', StR X R0 H0 Rb ρ' σ' R H → Q σ' H) → WG X t.py v σ H Q
  | .nm i y p, d, k, ρ, ρ', σ, v, Q, ck, b, r, st, q => by
    simp only [Tg.chk, Bool.and_eq_true, decide_eq_true_eq] at ck
    obtain ⟨l1, l2⟩ := loc_of ck.1.2
    unfold Tg.bind at b
    split at b
    · cases b
      exact WG.of (pg_name nd ck.1.1 l1 l2) (q _ (st.set (t := .bor d k) r rfl))
    · cases b
  | .tp ts kk p, d, k, ρ, ρ', σ, v, Q, ck, b, r, st, q => by
    unfold Tg.chk at ck
    cases d with
    | tup ds =>
      have b : Tg.binds ts ds (pr k) ρ = some ρ' := by rw [Tg.bind] at b; exact b
      obtain ⟨a, us, rfl, t, r⟩ := r
      refine WG.of (pg_tup calm (pgs_wgs (Tg.pys ts)) (asg_len ts X.env) (asg_no ts X.env)) ⟨a, us, rfl, st.eK ▸ st.rin.tup t, ?_, ?_⟩
      · rw [← r.length]; exact binds_len b
      · exact tgsS_ok calm nd vs ts ds (pr k) ρ ρ' σ us Q ck b r st q
    | _ => simp [Tg.bind] at b
theorem tgsS_ok {X : Cx} {R0 Rb R : RE} {H0 H : Hp} (calm : X.calm = true) (nd : X.N.Nodup) (vs : List Nat) : ∀ (ts : List Tg) (ds : List D) (k : Nat) (ρ ρ' : Env) (σ : L2.St) (us : List V) (Q : L2.St → Hp → Prop), Tg.chks X.N X.env.scope X.fn vs ts = true → Tg.binds ts ds k ρ = some ρ' → Reps R k ds us → StR X R0 H0 Rb ρ σ R H →
    (∀ σ', StR X R0 H0 Rb ρ' σ' R H → Q σ' H) → WGs X (Tg.pys ts) us σ H Q
  | [], [], k, ρ, ρ', σ, us, Q, ck, b, r, st, q => by
    cases b
    cases r
    exact WGs.of pgs_nil ⟨rfl, q σ st⟩
  | t :: ts, d :: ds, k, ρ, ρ', σ, us, Q, ck, b, r, st, q => by
    simp only [Tg.chks, Bool.and_eq_true] at ck
    obtain ⟨v, ws, rfl, r1, r2⟩ := r
    unfold Tg.binds at b
    split at b
    · rename_i ρ1 b1
      refine WGs.of (pgs_cons (pg_wg t.py) (pgs_wgs (Tg.pys ts)) (by rw [asg_py]; rfl)) ⟨v, ws, rfl, ?_⟩
      refine tgS_ok calm nd vs t d _ ρ ρ1 σ v _ ck.1 b1 (scal_rep r1) st fun σ1 st1 => ?_
      exact tgsS_ok calm nd vs ts ds k ρ1 ρ' σ1 ws Q ck.2 b r2 st1 q
    · cases b
  | [], _ :: _, _, _, _, _, _, _, _, b, _, _, _ => by cases b
  | _ :: _, [], _, _, _, _, _, _, _, b, _, _, _ => by cases b
end

/-! ### items of what stays -/
def RE.fz (R : RE) : RE := { R with G := R.F }
theorem RE.fz_in (R : RE) : R.fz.In := fun _ _ e => e
theorem rep_fz {R : RE} {d : D} {v : V} (h : Rep R 0 d v) : Rep R.fz 0 d v := rep_f0 (R := R) (R' := R.fz) rfl rfl (fun _ _ z => z) (fun _ _ z => z) (fun _ _ z => z) d v h
theorem i0_ok {X : Cx} {W : WX} {σ : L2.St} {R : RE} {H : Hp} {ρ : Env} {Q : It → Hp → Prop} (it : I) (tg : Tg) (ht : it.needsTp = true → tg.isTp = true) (cd : Cd X W C Γ cn fn σ R H ρ) (ck : it.chk cn fn X.N X.env.scope X.fn = true)
    (f : Fin (fun R' xs J => Wk R'.fz J xs) X W σ R H (evI0 C Γ it ρ) Q) : WIt X tg.py it.py σ H Q := by
  cases it with
  | ex a =>
    rw [I.chk] at ck
    rw [evI0] at f
    refine WIt.of (pi_src (pe_we _)) ?_
    refine (e_ok a).1 cd ck (Fin.step f fun dx v R1 H1 e1 p1 r1 f1 => ?_)
    have c1 := cd.after p1
    obtain ⟨d, k⟩ := dx
    cases k with
    | succ k => exact f1.elim
    | zero =>
      have f1 : Fin (fun R' xs J => Wk R'.fz J xs) X W σ R1 H1 (itemsOf (d, 0)) Q := f1
      obtain ⟨xs, er, f2⟩ := f1.no (items_nox _)
      have r2 : Rep R1.fz 0 d v := rep_fz r1
      unfold itemsOf at er
      split at er
      · rename_i q; cases q; cases er
        obtain ⟨t, vs, rfl, ht, r⟩ := r2
        refine .inl ⟨t, vs, rfl, c1.eK ▸ p1.rin.lst (k := 0) ht, f2.ok p1.rin (wk_list (R := R1.fz) c1.eK (k := 0) ht r)⟩
      · rename_i q; cases q; cases er
        obtain ⟨t, vs, rfl, ht, r⟩ := r2
        refine .inr (.inl ⟨t, vs, rfl, c1.eK ▸ p1.rin.tup (k := 0) ht, f2.ok p1.rin (wk_tup (R := R1.fz) c1.eK (k := 0) ht r)⟩)
      · rename_i q; cases q; cases er
        cases r2
        exact .inr (.inr ⟨_, rfl, f2.ok p1.rin (wk_str _)⟩)
      · cases er
  | rg1 a p1 p =>
    simp only [I.chk, Bool.and_eq_true] at ck
    obtain ⟨g1, g2⟩ := gl_of ck.1
    rw [evI0] at f
    refine WIt.of (pi_range1 g1 cd.kn.rng (pa_cons (pe_we _) pa_nil (star_py _ _ _)) (star_py _ _ _)) ?_
    refine (e_ok a).1 cd ck.2 (asI_step f fun i R1 H1 p1 f1 => ?_)
    split at f1
    · rename_i hs
      obtain ⟨s1, s2⟩ := small62_ok hs
      exact ⟨i, rfl, s1, s2, f1.ok p1.rin (wk_rng 0 _)⟩
    · exact f1.elim
  | rg2 a b p1 p =>
    simp only [I.chk, Bool.and_eq_true] at ck
    obtain ⟨g1, g2⟩ := gl_of ck.1.1
    rw [evI0] at f
    refine WIt.of (pi_range2 g1 cd.kn.rng (pa_cons (pe_we _) (pa_cons (pe_we _) pa_nil (star_py _ _ _)) (star_py _ _ _)) (by rw [star_py, star_py]; rfl) (star_py _ _ _)) ?_
    refine (e_ok a).1 cd ck.1.2 (asI_step f fun i R1 H1 p1 f1 => ?_)
    refine (e_ok b).1 (cd.after p1) ck.2 (asI_step f1 fun j R2 H2 p2 f2 => ?_)
    split at f2
    · rename_i hs
      rw [Bool.and_eq_true] at hs
      obtain ⟨s1, s2⟩ := small62_ok hs.1
      obtain ⟨s3, s4⟩ := small62_ok hs.2
      exact ⟨i, j, rfl, ⟨s1, s2, s3, s4⟩, f2.ok p2.rin (wk_rng i _)⟩
    · exact f2.elim
  | enu a p1 p =>
    simp only [I.chk, Bool.and_eq_true] at ck
    obtain ⟨g1, g2⟩ := gl_of ck.1
    rw [evI0] at f
    cases tg with
    | nm i x p => cases ht rfl
    | tp ts kk tp =>
      refine WIt.of (pi_enum g1 cd.kn.enu (pa_cons (pe_we _) pa_nil (star_py _ _ _)) (star_py _ _ _)) ?_
      refine (e_ok a).1 cd ck.2 (Fin.step f fun dx v R1 H1 e1 p1 r1 f1 => ?_)
      have c1 := cd.after p1
      obtain ⟨d, k⟩ := dx
      cases d with
      | lst ds =>
        cases k with
        | succ k => exact f1.elim
        | zero =>
          have r2 : Rep R1.fz 0 (.lst ds) v := rep_fz r1
          obtain ⟨t, vs, rfl, ht, r⟩ := r2
          have w := wk_enum (R := R1.fz) c1.eK (k := 0) ht r
          have e0 : (ds.map fun d => (d, lvlOf d (pr 0))) = ds.map fun d => (d, 0) := by
            congr 1; funext d; rw [pr_zero, lvlOf_zero]
          rw [e0] at w
          exact ⟨t, vs, rfl, c1.eK ▸ p1.rin.lst (k := 0) ht, Fin.ok f1 p1.rin w⟩
      | _ => exact f1.elim
  | zip a b p1 p =>
    simp only [I.chk, Bool.and_eq_true] at ck
    obtain ⟨g1, g2⟩ := gl_of ck.1.1
    rw [evI0] at f
    cases tg with
    | nm i x p => cases ht rfl
    | tp ts kk tp =>
      refine WIt.of (pi_zipS g1 cd.kn.zip (pa_cons (pe_we _) (pa_cons (pe_we _) pa_nil (star_py _ _ _)) (star_py _ _ _)) (star_py _ _ _) (by rw [star_py]; rfl)) ?_
      refine (e_ok a).1 cd ck.1.2 (Fin.step f fun dx v R1 H1 e1 p1 r1 f1 => ?_)
      have c1 := cd.after p1
      refine (e_ok b).1 c1 ck.2 (Fin.step f1 fun dy u R2 H2 e2 p2 r2 f2 => ?_)
      have c2 := c1.after p2
      obtain ⟨d, k⟩ := dx
      obtain ⟨d', k'⟩ := dy
      cases k with
      | succ k => exact f2.elim
      | zero =>
        cases k' with
        | succ k' => exact f2.elim
        | zero =>
          have f2 : Fin (fun R' xs J => Wk R'.fz J xs) X W σ R2 H2 (itemsOf (d, 0) >>= fun xs => itemsOf (d', 0) >>= fun ys => .ok (zipI xs ys)) Q := f2
          cases ex : itemsOf (d, 0) with
          | ok xs =>
            rw [ex] at f2
            cases ey : itemsOf (d', 0) with
            | ok ys =>
              rw [ey] at f2
              have q1 : Rep R2.fz 0 d v := rep_fz (Rep.ext p2.ex _ _ _ r1)
              have q2 : Rep R2.fz 0 d' u := rep_fz r2
              have rz : RIn R2.fz H2 := p2.rin.less ⟨rfl, rfl, fun _ _ z => z, fun a u z => p2.rin.inn a u z, fun _ _ z => z, fun _ _ z => z, fun _ _ z => z⟩ (RE.fz_in R2)
              obtain ⟨s1, rfl, o1⟩ := src_of (H := H2) ex q1
              obtain ⟨s2, rfl, o2⟩ := src_of (H := H2) ey q2
              refine ⟨s1, s2, rfl, o1.has rz c2.eK, o2.has rz c2.eK, fun t1 t2 => ?_⟩
              exact Fin.ok f2 p2.rin (wk_zip (R := R2.fz) c2.eK (o1.tok t1) (o2.tok t2) ex ey)
            | exc _ _ => exact absurd ey (items_nox _ _ _)
            | fail => rw [ey] at f2; exact f2.elim
          | exc _ _ => exact absurd ex (items_nox _ _ _)
          | fail =>
            rw [ex] at f2
            exact f2.elim
end
end Ev
set_option Elab.async false
set_option linter.all false
set_option maxRecDepth 100000
set_option maxHeartbeats 1000000
/-! Ev21: statements, one form at a time. -/
namespace Ev
open PySem PySem.Spec PyProof.Rows L2

/-! ### what is seen of a statement -/
def nmB (N : List Str) (sc : Scope) (fb : Str → Bool) (n : Nm) : Bool := decide (N[n.i]? = some n.x) && locB sc fb n.x
def lclB (sc : Scope) (x : Str) : Bool := match sc.names.lookup x with
  | some .local => true
  | _ => false
def E.isLc : E → Bool
  | .lc _ _ _ _ _ _ _ => true
  | .dc _ _ _ _ _ _ _ _ _ => true
  | _ => false
def E.isTupE : E → Bool
  | .tup _ _ _ => true
  | _ => false
/-- name = [..] on one line -/
def swB (sc : Scope) (n : Nm) : E → Bool
  | .lc _ _ _ _ scope _ p => lclB sc n.x && (n.p.line == p.line) && !(scope.names.any fun (m, k) => m == n.x && (k == .local || k == .cell))
  | _ => true
def distB : List Nat → Bool
  | [] => true
  | i :: is => !(is.contains i) && distB is
def swapB (sc : Scope) (ns : List Nm) (es : List Expr) : Bool :=
  (ns.length == 2 || ns.length == 3) && ns.all (fun n => lclB sc n.x) && ns.all (fun n => n.p.line == (ns.head?.map (·.p.line)).getD 0) && ((ns.map (·.x)).eraseDups.length == ns.length) && !(es.all (foldedForSure 8)) && !(es.all (constantsAlone 8))
def noswB (sc : Scope) (ns : List Nm) (es : List Expr) : Bool := (!(ns.length == 2 || ns.length == 3) || es.all (foldedForSure 8)) || ns.any (fun n => !lclB sc n.x)
section
variable (cn fn : Nat → Str) (xn : Str → Bool)
mutual
def HE.chk (N : List Str) (sc : Scope) (i : Nat) : HE → Bool
  | .at j x _ _ => decide (N[j]? = some x) && (i == j) && visB sc x && !(x == "__debug__") && !(x == "__classdict__")
  | .tup es _ _ => HE.chks N sc i es && decide (es.length < 1000)
  | _ => true
def HE.chks (N : List Str) (sc : Scope) (i : Nat) : List HE → Bool
  | [] => true
  | e :: es => e.chk N sc i && HE.chks N sc i es
end
/-- a slot that is none: a clause without a name -/
def Hd.chk (N : List Str) (sc : Scope) (h : Hd) : Bool := xn h.c && glB sc h.c && (match h.nm with
  | none => h.e.chk N sc 1000000 && decide (N.length < 1000000)
  | some (i, x) => h.e.chk N sc i && decide (N[i]? = some x) && lclB sc x)
mutual
def S.chk (N : List Str) (sc : Scope) (fb : Str → Bool) : S → Bool
  | .set n e _ => nmB N sc fb n && e.chk cn fn N sc fb && swB sc n e && !(n.own && e.isLc) && (match e with | .dc _ _ _ _ _ _ _ _ _ => false | _ => true)
  | .unp t e _ => t.chk N sc fb (List.range N.length) && e.chk cn fn N sc fb && !e.isLc && !e.isTupE
  | .par ns es _ _ _ _ _ => ns.all (nmB N sc fb) && E.chks cn fn N sc fb es && decide (ns.length = es.length) && decide (ns.length < 1000) && distB (ns.map (·.i)) && (swapB sc ns (E.pys es) || noswB sc ns (E.pys es))
  | .put n i v _ _ => nmB N sc fb n && i.chk cn fn N sc fb && v.chk cn fn N sc fb && !v.isLc && visB sc n.x && !(n.x == "__debug__") && !(n.x == "__classdict__")
  | .app n e p1 p2 _ => nmB N sc fb n && e.chk cn fn N sc fb && visB sc n.x && !(n.x == "__debug__") && !(n.x == "__classdict__") && (p1.endLine == p2.line)
  | .exp e _ => e.chk cn fn N sc fb && !e.isLc
  | .ret e _ => e.chk cn fn N sc fb
  | .ifs c a b _ => c.chk cn fn N sc fb && !c.isIfe && S.chks N sc fb a && S.chks N sc fb b
  | .forr t it b _ => t.chk N sc fb (List.range N.length) && it.chk cn fn N sc fb && (!it.needsTp || t.isTp) && S.chks N sc fb b
  | .rse c e _ _ _ => xn c && glB sc c && e.chk cn fn N sc fb
  | .tri b hs _ => S.chks N sc fb b && hs.all (Hd.chk xn N sc) && !hs.isEmpty
  | .frz _ => true
def S.chks (N : List Str) (sc : Scope) (fb : Str → Bool) : List S → Bool
  | [] => true
  | s :: ss => s.chk N sc fb && S.chks N sc fb ss
end
end

/-! ### the context -/
def MkC (P : Program) (w : World) (K : PySem.W.Frag) (mg : Str → Option Value) (base : Heap) (A : Around) (c : Str) (C : Addr) : Prop :=
  ∀ X : Cx, X.prog = P → X.w = w → X.K = K → X.mg = mg → X.base = base → X.A = A → X.calm = true → Gl X c → ∀ (e : E) (p0 p1 : Pos),
    PMk X (.Call (.Name c p0) [e.py] [] p1) (fun σ H Q => WE X e.py σ H fun v H1 => ∀ dd, H1 dd = none → Q (.ref C) (some dd) (upd H1 dd (.xd [(atS, v)])))
structure Kx (X : Cx) (sub : Str → Str → Option Bool) (xn : Str → Bool) : Prop where
  nm : ∀ c, xn c = true → ∃ C, X.mg c = some (.ref C)
  exm : ∀ c c' b C C', sub c c' = some b → X.mg c = some (.ref C) → X.mg c' = some (.ref C') → PySem.W.exmOne X.K (.ref C) (.ref C') = some b
  xf : ∀ c c' C, sub c c' = some true → X.mg c = some (.ref C) → XfC X.K C ∧ PySem.W.findIn X.K (.ref C) atS = some none
  mak : ∀ c C, xn c = true → X.mg c = some (.ref C) → MkC X.prog X.w X.K X.mg X.base X.A c C
structure Ks (X : Cx) (W : WX) (C : Nat → D) (Γ : Fns) (cn fn : Nat → Str) (sub : Str → Str → Option Bool) (xn : Str → Bool) : Prop where
  kn : Kn X C Γ cn fn
  kx : Kx X sub xn
  tk : Takes X W
  own : PassesOwn (model X.prog X.w) X.A X.env X.xe
  hs : X.stack = X.env :: X.outer
  hf : X.env.frame = some X.env.locals
  kind : X.env.scope.kind = .function
section
variable {C : Nat → D} {Γ : Fns} {cn fn : Nat → Str} {sub : Str → Str → Option Bool} {xn : Str → Bool}
variable {X : Cx} {W : WX} {R0 Rb R R1 : RE} {H0 H H1 : Hp} {ρ : Env} {σ : L2.St} {E' : Ends}
theorem Ks.cd (k : Ks X W C Γ cn fn sub xn) (h : StR X R0 H0 Rb ρ σ R H) : Cd X W C Γ cn fn σ R H ρ := ⟨k.kn, k.tk, h.rel, h.rin, h.eK, h.ew⟩
theorem sw_py {e : E} (h : e.isLc = false) (t : Option Expr) (l : Nat) (env : PySem.Env) : swapsWith e.py t l env = pure false := by
  cases e <;> first
    | (simp only [E.py]; rfl)
    | (cases h)
theorem sws_py {e : E} (h : e.isLc = false) (t : Expr) (l : Nat) (env : PySem.Env) : swapsWithSole [t] e.py l env = pure false := sw_py h (some t) l env
theorem nosw_py {e : E} (h : e.isTupE = false) (t : Expr) (env : PySem.Env) : swappedStores [t] e.py env = pure none := by
  cases e <;> first
    | (simp only [E.py]; cases t <;> rfl)
    | (cases h)
theorem lcl_of {sc : Scope} {x : Str} (h : lclB sc x = true) : sc.names.lookup x = some .local := by
  unfold lclB at h
  split at h
  · assumption
  · cases h
/-- exceptions of an expression, in a statement -/
theorem FinS.ofE {r : Ev.R DL} {f : DL → Ev.R O} {Q : VK} (st : StR X R0 H0 Rb ρ σ R H) (fs : FinS X W R0 H0 Rb (r >>= f) E')
    (k : ∀ d v R1 H1, r = .ok d → Post R H R1 H1 → rV R1 d v → FinS X W R0 H0 Rb (f d) E' → StR X R0 H0 Rb ρ σ R1 H1 → Q v H1) : Fin rV X W σ R H r Q := by
  cases r with
  | ok d => exact fun v R1 H1 p rv => k d v R1 H1 rfl p rv fs (st.after p)
  | exc c a => exact fs σ R H st.post
  | fail => exact fs.elim
theorem s1_set {n : Nm} {e : E} {p : Pos} (k : Ks X W C Γ cn fn sub xn) (st : StR X R0 H0 Rb ρ σ R H) (ck : (S.set n e p).chk cn fn xn X.N X.env.scope X.fn = true) (fs : FinS X W R0 H0 Rb (evT C Γ n.own e ρ >>= fun t => .ok (.nx (ρ.set n.i (some t)))) E') :
    WS1 X (.Assign [.Name n.x n.p] e.py p) E' σ H := by
  simp only [S.chk, nmB, Bool.and_eq_true, decide_eq_true_eq, Bool.not_eq_true'] at ck
  obtain ⟨⟨⟨⟨⟨k1, k2⟩, k3⟩, k4⟩, k5⟩, k6⟩ := ck
  obtain ⟨l1, l2⟩ := loc_of k2
  have fin : FinT X W σ R H (evT C Γ n.own e ρ) (fun v H' => E'.nx (σ.set n.i (some v)) H') := by
    cases et : evT C Γ n.own e ρ with
    | ok t =>
      rw [et] at fs
      intro v R1 H1 p1 r1
      have st1 := st.after p1
      refine fs _ R1 H1 (st1.put (Hs := H) (fun a z => st.post.same.free z) r1 fun w j u ej wj => ?_)
      obtain ⟨b, o, f1, _, _, f4, _⟩ := st.own j u ej wj
      unfold rT at r1
      rw [w] at r1
      obtain ⟨a, o2, rfl, _, _, _, _, e6⟩ := r1
      rw [f1]
      intro q
      have q2 : b = a := V.ref.inj (Option.some.inj (Option.some.inj q))
      rw [q2, e6] at f4; cases f4
    | exc c a => rw [et] at fs; exact fs σ R H st.post
    | fail => rw [et] at fs; exact fs.elim
  cases el : e.isLc with
  | false =>
    refine WS1.of (ps_set k.kn.nd k1 l1 (pe_we _) (sw_py el _ _ _) l2) ?_
    exact t_ok (k.cd st) k3 fin
  | true =>
    cases e with
    | lc elt tg it ifs scope own lp =>
      have ho : n.own = false := by
        cases h : n.own with
        | false => rfl
        | true => rw [h] at k5; simp [E.isLc] at k5
      simp only [swB, Bool.and_eq_true, Bool.not_eq_true'] at k4
      have hy := lcl_of k4.1.1
      simp only [E.chk, Bool.and_eq_true] at k3
      obtain ⟨⟨⟨⟨⟨⟨c0, c1⟩, c2⟩, c3⟩, c4⟩, c5⟩, c6⟩ := k3
      have hl : ifs.length ≤ 1 := of_decide_eq_true c0
      have ht : it.needsTp = true → tg.isTp = true := fun h => by rw [h] at c1; simpa using c1
      refine WS1.of (ps_setLc (wi := WIt X tg.py it.py) (g := UG X scope tg.py) (tt := UTs X scope (E.pys ifs)) (te := UE X scope elt.py) k.kn.calm k.kn.nd k1 hy (sw_true k.kind hy k4.1.2 k4.2) (pi_wi _ _) (blkOk_by c2)
        (fun s H0 Cc cl fp => ⟨fun pins s' σ H v u Q I r h => h s H0 Cc cl fp pins s' u I r⟩) (pts_uts hl) (fun s H0 Cc cl fp => ⟨fun pins s' σ H Q I h => h s H0 Cc cl fp pins s' I⟩) (fold_I _ _)) ?_
      refine lc_body (e_ok elt).1 (i_ok it).h (fs_ok ifs).h ht (k.cd st) c2 c3 c4 c5 c6 ?_
      rw [ho, evT] at fin
      have fin : FinT X W σ R H (evE C Γ (.lc elt tg it ifs scope own lp) ρ >>= fun x => .ok (.bor x.1 x.2)) (fun v H' => E'.nx (σ.set n.i (some v)) H') := fin
      rw [evE] at fin
      generalize hr : (evI C Γ it ρ >>= fun xs => lcTe C Γ elt tg ifs (wipeE ρ (own.map (·.2))) xs >>= fun ys => if ys.length ≤ sizeLine then Ev.R.ok (D.lst (ys.map (·.1)), upL (maxLv ys)) else .fail) = r
      have fin : FinT X W σ R H (r >>= fun x => .ok (.bor x.1 x.2)) (fun v H' => E'.nx (σ.set n.i (some v)) H') := by rw [← hr]; exact fin
      cases r with
      | ok d => exact fun v R' H' p r => fin v R' H' p r
      | exc c a => exact fin
      | fail => exact fin
    | dc => cases k6
    | _ => cases el
theorem s1_unp {t : Tg} {e : E} {p : Pos} (k : Ks X W C Γ cn fn sub xn) (st : StR X R0 H0 Rb ρ σ R H) (ck : (S.unp t e p).chk cn fn xn X.N X.env.scope X.fn = true) (fs : FinS X W R0 H0 Rb (evS C Γ sub (.unp t e p) ρ) E') :
    WS1 X (.Assign [t.py] e.py p) E' σ H := by
  simp only [S.chk, Bool.and_eq_true, Bool.not_eq_true'] at ck
  obtain ⟨⟨⟨k1, k2⟩, k3⟩, k4⟩ := ck
  rw [evS] at fs
  refine WS1.of (ps_asg (pe_we _) (pg_wg _) (sws_py k3 _ _ _) (nosw_py k4 _ _) (by rw [asg_py]; rfl)) ?_
  refine (e_ok e).1 (k.cd st) k2 (FinS.ofE st fs fun d v R1 H1 e1 p1 r1 f1 st1 => ?_)
  split at f1
  · rename_i ρ' b
    exact tgS_ok k.kn.calm k.kn.nd _ t d.1 d.2 ρ ρ' σ v _ k1 b r1 st1 fun σ' st' => f1 σ' R1 H1 st'
  · exact f1.elim
theorem s1_exp {e : E} {p : Pos} (k : Ks X W C Γ cn fn sub xn) (st : StR X R0 H0 Rb ρ σ R H) (ck : (S.exp e p).chk cn fn xn X.N X.env.scope X.fn = true) (fs : FinS X W R0 H0 Rb (evS C Γ sub (.exp e p) ρ) E') :
    WS1 X (.Expr e.py p) E' σ H := by
  simp only [S.chk, Bool.and_eq_true, Bool.not_eq_true'] at ck
  rw [evS] at fs
  refine WS1.of (ps_expr (pe_we _) (sw_py ck.2 _ _ _)) ?_
  exact (e_ok e).1 (k.cd st) ck.1 (FinS.ofE st fs fun d v R1 H1 e1 p1 r1 f1 st1 => f1 σ R1 H1 st1)
theorem s1_ret {e : E} {p : Pos} (k : Ks X W C Γ cn fn sub xn) (st : StR X R0 H0 Rb ρ σ R H) (ck : (S.ret e p).chk cn fn xn X.N X.env.scope X.fn = true) (fs : FinS X W R0 H0 Rb (evS C Γ sub (.ret e p) ρ) E') :
    WS1 X (.Return (some e.py) p) E' σ H := by
  rw [S.chk] at ck
  rw [evS] at fs
  refine WS1.of (ps_ret (pe_we _)) ?_
  obtain ⟨R2, st2, x2⟩ := StR.frzs (List.range ρ.length) st
  refine (e_ok e).1 (k.cd st2) ck (FinS.ofE st2 fs fun d v R1 H1 e1 p1 r1 f1 st1 => ?_)
  obtain ⟨d, l⟩ := d
  cases l with
  | zero => exact f1 v R1 H1 st1.post r1
  | succ l => exact f1.elim
theorem tru_step {c : E} (k : Ks X W C Γ cn fn sub xn) (st : StR X R0 H0 Rb ρ σ R H) (ck : c.chk cn fn X.N X.env.scope X.fn = true) (ci : c.isIfe = false) {f : Bool → Ev.R O} {Q : Bool → Hp → Prop} (fs : FinS X W R0 H0 Rb ((evE C Γ c ρ >>= truD) >>= f) E')
    (kk : ∀ b R1 H1, FinS X W R0 H0 Rb (f b) E' → StR X R0 H0 Rb ρ σ R1 H1 → Q b H1) : WT X c.py σ H Q := by
  refine (e_ok c).2 (k.cd st) ck ci ?_
  cases ec : (evE C Γ c ρ >>= truD) with
  | ok b =>
    rw [ec] at fs
    intro b' R1 H1 p1 e
    cases e
    exact kk b R1 H1 fs (st.after p1)
  | exc q z => rw [ec] at fs; exact fs σ R H st.post
  | fail => rw [ec] at fs; exact fs.elim
theorem s1_app {n : Nm} {e : E} {p1 p2 p : Pos} (k : Ks X W C Γ cn fn sub xn) (st : StR X R0 H0 Rb ρ σ R H) (ck : (S.app n e p1 p2 p).chk cn fn xn X.N X.env.scope X.fn = true) (fs : FinS X W R0 H0 Rb (evS C Γ sub (.app n e p1 p2 p) ρ) E') :
    WS1 X (.Expr (.Call (.Attribute (.Name n.x n.p) "append" p1) [e.py] [] p2) p) E' σ H := by
  simp only [S.chk, nmB, Bool.and_eq_true, decide_eq_true_eq, Bool.not_eq_true'] at ck
  obtain ⟨⟨⟨⟨⟨⟨k1, k2⟩, k3⟩, k4⟩, k5⟩, k6⟩, k7⟩ := ck
  rw [evS] at fs
  split at fs
  · rename_i ds0 e0
    refine WS1.of (ps_expr (pe_bm PySem.F.plainAttrs_list PySem.F.slot_list_append PySem.F.type_list_append mt_append (pe_var k1 (vis_of k4) k5 k6) (pa_cons (pe_we _) pa_nil (star_py _ _ _)) (by rfl)
      (by rw [star_py]; rfl) k7 (star_py _ _ _) (by rfl)) (by rfl)) ?_
    obtain ⟨a, o, e1, e2, e3, e4, e5, e6, e7⟩ := st.own n.i _ e0 rfl
    refine ⟨.ref a, e1, ⟨.inl ⟨rfl, ?_⟩, ?_⟩⟩
    · obtain ⟨vs, rfl, r⟩ := e2
      exact ⟨vs, .inl (.inl e4)⟩
    · refine (e_ok e).1 (k.cd st) k3 (FinS.ofE st fs fun d v R1 H1 _ q1 r1 f1 st1 => ?_)
      obtain ⟨d, l⟩ := d
      cases l with
      | succ l => exact f1.elim
      | zero =>
        have f1 : FinS X W R0 H0 Rb (if ds0.length < 1000000 then .ok (.nx (Env.stale (ρ.set n.i (some (.fl (ds0 ++ [d])))))) else .fail) E' := f1
        split at f1
        · rename_i hl
          obtain ⟨a', o', g1, g2, g3, g4, g5, g6, g7⟩ := st1.own n.i _ e0 rfl
          rw [e1] at g1; cases g1
          obtain ⟨vs, rfl, r⟩ := g2
          refine ⟨a, vs, v, rfl, rfl, g4, ?_, ?_⟩
          · rw [← r.length, sizeLine_eq]; omega
          · exact f1 _ _ _ (st1.mut e0 rfl e1 (t' := .fl (ds0 ++ [d])) rfl ⟨vs ++ [v], rfl, Reps.append r (.one r1)⟩ g3 g5 g6 g7)
        · exact f1.elim
  · exact fs.elim
theorem reps_set {R : RE} {k : Nat} {d : D} {v : V} : ∀ {ds : List D} {vs : List V} {j : Nat}, Reps R k ds vs → Rep R k d v → Reps R k (ds.set j d) (vs.set j v)
  | [], _, j, h, _ => by cases h; simp [Reps]
  | x :: ds, _, 0, h, g => by
    obtain ⟨u, r, rfl, h1, h2⟩ := h
    exact ⟨v, r, rfl, g, h2⟩
  | x :: ds, _, j + 1, h, g => by
    obtain ⟨u, r, rfl, h1, h2⟩ := h
    exact ⟨u, r.set j v, rfl, h1, reps_set h2 g⟩
theorem s1_put {n : Nm} {i v : E} {pt p : Pos} (k : Ks X W C Γ cn fn sub xn) (st : StR X R0 H0 Rb ρ σ R H) (ck : (S.put n i v pt p).chk cn fn xn X.N X.env.scope X.fn = true) (fs : FinS X W R0 H0 Rb (evS C Γ sub (.put n i v pt p) ρ) E') :
    WS1 X (.Assign [.Subscript (.Name n.x n.p) i.py pt] v.py p) E' σ H := by
  simp only [S.chk, nmB, Bool.and_eq_true, decide_eq_true_eq, Bool.not_eq_true'] at ck
  obtain ⟨⟨⟨⟨⟨⟨⟨k1, k2⟩, k3⟩, k4⟩, k5⟩, k6⟩, k7⟩, k8⟩ := ck
  rw [evS] at fs
  have hu : X.A.units + 1 < cLine := by have := (k.cd st).un; omega
  split at fs
  · rename_i ds e0
    refine WS1.of (ps_asg (pe_we _) (pg_sub (pe_var k1 (vis_of k6) k7 k8) (pe_we _) set_list (by intro u; cases i <;> (simp only [E.py]; rfl))) (sws_py k5 _ _ _) (by cases v <;> (simp only [E.py]; rfl)) (by rfl)) ?_
    refine (e_ok v).1 (k.cd st) k4 (FinS.ofE st fs fun d u R1 H1 _ q1 r1 f1 st1 => ?_)
    obtain ⟨a, o, e1, e2, e3, e4, e5, e6, e7⟩ := st1.own n.i _ e0 rfl
    refine ⟨.ref a, e1, ?_⟩
    refine (e_ok i).1 (k.cd st1) k3 (FinS.ofE st1 f1 fun y z R2 H2 _ q2 r2 f2 st2 => ?_)
    obtain ⟨d, l⟩ := d
    cases l with
    | succ l => exact f2.elim
    | zero =>
      obtain ⟨y, l2⟩ := y
      cases y with
      | int kk =>
        have f2 : FinS X W R0 H0 Rb (match ixN ds.length kk with | some j => .ok (.nx (Env.stale (ρ.set n.i (some (.fl (ds.set j d)))))) | none => .fail) E' := f2
        split at f2
        · rename_i j ej
          obtain ⟨a', o', g1, g2, g3, g4, g5, g6, g7⟩ := st2.own n.i _ e0 rfl
          rw [e1] at g1; cases g1
          obtain ⟨vs, rfl, r⟩ := g2
          cases r2
          refine ⟨a, vs, kk, j, rfl, rfl, g4, by rw [← r.length]; exact ej, ?_⟩
          exact f2 _ _ _ (st2.mut e0 rfl e1 (t' := .fl (ds.set j d)) rfl ⟨vs.set j u, rfl, reps_set r (Rep.ext q2.ex _ _ _ r1)⟩ g3 g5 g6 g7)
        · exact f2.elim
      | _ => exact f2.elim
  · rename_i kvs e0
    refine WS1.of (ps_asg (pe_we _) (pg_sub (pe_var k1 (vis_of k6) k7 k8) (pe_we _) (set_dict hu) (by intro u; cases i <;> (simp only [E.py]; rfl))) (sws_py k5 _ _ _) (by cases v <;> (simp only [E.py]; rfl)) (by rfl)) ?_
    refine (e_ok v).1 (k.cd st) k4 (FinS.ofE st fs fun d u R1 H1 _ q1 r1 f1 st1 => ?_)
    obtain ⟨a, o, e1, e2, e3, e4, e5, e6, e7⟩ := st1.own n.i _ e0 rfl
    refine ⟨.ref a, e1, ?_⟩
    refine (e_ok i).1 (k.cd st1) k3 (FinS.ofE st1 f1 fun y z R2 H2 _ q2 r2 f2 st2 => ?_)
    obtain ⟨d, l⟩ := d
    cases l with
    | succ l => exact f2.elim
    | zero =>
      have f2 : FinS X W R0 H0 Rb (if y.1.key.isSome ∧ kvs.length < 1000000 then .ok (.nx (Env.stale (ρ.set n.i (some (.fd false (dput kvs y.1 d)))))) else .fail) E' := f2
      split at f2
      · rename_i hc
        obtain ⟨q, hq⟩ := Option.isSome_iff_exists.mp hc.1
        obtain ⟨a', o', g1, g2, g3, g4, g5, g6, g7⟩ := st2.own n.i _ e0 rfl
        rw [e1] at g1; cases g1
        obtain ⟨ks, vs, rfl, l, r⟩ := g2
        have ez := key_V hq r2
        subst ez
        obtain ⟨ls, ws, l', ep, r'⟩ := repK_put hq (Rep.ext q2.ex _ _ _ r1) r l
        refine ⟨a, _, rfl, DPut.k g4 ?_, ?_⟩
        · have := repK_len r
          rw [List.length_zip, ← l, Nat.min_self, ← this.1, sizeLine_eq]; omega
        · rw [ep]
          exact f2 _ _ _ (st2.mut e0 rfl e1 (t' := .fd false (dput kvs y.1 d)) rfl ⟨ls, ws, rfl, l', r'⟩ g3 g5 g6 g7)
      · exact f2.elim
  · exact fs.elim
end
end Ev
set_option Elab.async false
set_option linter.all false
set_option maxRecDepth 100000
set_option maxHeartbeats 1000000
/-! Ev22: pairs of names, raise, try, for, if; all statements. -/
namespace Ev
open PySem PySem.Spec PyProof.Rows L2
theorem any_star : ∀ (es : List E), ((E.pys es).any fun | .Starred .. => true | _ => false) = false
  | [] => rfl
  | e :: es => by
    rw [E.pys, List.any_cons, any_star es]
    cases e <;> (simp only [E.py]; rfl)
theorem names_of (env : PySem.Env) (l : Nat) : ∀ (ns : List Nm), (ns.all (fun n => lclB env.scope n.x)) = true → (ns.all (fun n => n.p.line == l)) = true →
    ((ns.map nmT).filterMap fun | .Name id pos => if env.kindOf id == some .local && pos.line == l then some id else none | _ => none) = ns.map (·.x)
  | [], _, _ => rfl
  | n :: ns, h1, h2 => by
    rw [List.all_cons, Bool.and_eq_true] at h1 h2
    have ih := names_of env l ns h1.2 h2.2
    have k : env.kindOf n.x = some .local := lcl_of h1.1
    rw [List.map_cons, List.map_cons, List.filterMap_cons_some (b := n.x), ih]
    show (if env.kindOf n.x == some .local && n.p.line == l then some n.x else none) = some n.x
    rw [k, h2.1]
    rfl
theorem head_line (ns : List Nm) : (((ns.map nmT).head?.map (·.pos.line)).getD 0) = (ns.head?.map (·.p.line)).getD 0 := by
  cases ns <;> rfl
theorem sw_some {ns : List Nm} {es : List E} {kt k2 : Nat} {pt pt2 : Pos} {env : PySem.Env} (hk : env.scope.kind = .function) (hl : ns.length = es.length) (h : swapB env.scope ns (E.pys es) = true) :
    swappedStores [.Tuple (ns.map nmT) kt pt] (.Tuple (E.pys es) k2 pt2) env = pure (some (ns.map (·.x))) := by
  simp only [swapB, Bool.and_eq_true, Bool.not_eq_true'] at h
  obtain ⟨⟨⟨⟨⟨h1, h2⟩, h3⟩, h4⟩, h5⟩, h6⟩ := h
  have hb : env.blockKind = .function := by unfold Env.blockKind; rw [hk]; rfl
  have e1 : (!((ns.map nmT).length == 2 || (ns.map nmT).length == 3) || (E.pys es).length != (ns.map nmT).length || env.blockKind != .function) = false := by
    rw [List.length_map, pys_len, hb, ← hl, h1]
    simp
  have e2 := any_star es
  have e3 := names_of env _ ns h2 h3
  rw [← head_line] at e3
  have e4 : ((ns.map (·.x)).length != (ns.map nmT).length || (ns.map (·.x)).eraseDups.length != (ns.map (·.x)).length) = false := by
    rw [List.length_map, List.length_map]
    have h4 : (ns.map (·.x)).eraseDups.length = ns.length := by simpa using h4
    rw [h4]; simp
  unfold swappedStores
  refine (if_neg (by rw [e1]; exact Bool.false_ne_true)).trans ?_
  refine (if_neg (by intro z; exact absurd (z.symm.trans e2) (by decide))).trans ?_
  have cong : ∀ (nn : List Str), nn = ns.map (·.x) → (if (nn.length != (ns.map nmT).length || nn.eraseDups.length != nn.length) = true then (pure none : Sem (Option (List Str))) else
      if ((E.pys es).all (foldedForSure 8)) = true then pure none else if ((E.pys es).all (constantsAlone 8)) = true then (do unsupported "assign.tuple-of-constant-expressions:order-of-the-stores"; pure (some nn)) else pure (some nn)) = pure (some (ns.map (·.x))) := by
    rintro nn rfl
    rw [e4, h5, h6]
    rfl
  exact cong _ e3
theorem fm_lt {α β : Type} (f : α → Option β) : ∀ (l : List α), l.any (fun x => (f x).isNone) = true → (l.filterMap f).length < l.length
  | [], h => by cases h
  | x :: l, h => by
    rw [List.any_cons, Bool.or_eq_true] at h
    cases e : f x with
    | none =>
      rw [List.filterMap_cons_none e, List.length_cons]
      exact Nat.lt_succ_of_le (List.length_filterMap_le _ _)
    | some y =>
      rw [List.filterMap_cons_some e, List.length_cons, List.length_cons]
      rw [e] at h
      rcases h with h | h
      · cases h
      · exact Nat.succ_lt_succ (fm_lt f l h)
theorem nolcl_of {env : PySem.Env} {x : Str} (h : lclB env.scope x = false) : (env.kindOf x == some .local) = false := by
  unfold lclB at h
  show (env.scope.names.lookup x == some NameKind.local) = false
  split at h
  · cases h
  · rename_i q
    cases e : env.scope.names.lookup x with
    | none => rfl
    | some k => cases k <;> first | rfl | exact absurd e q
theorem any_none (env : PySem.Env) (l : Nat) : ∀ (ns : List Nm), ns.any (fun n => !lclB env.scope n.x) = true → (ns.map nmT).any (fun x => ((fun | .Name id pos => if env.kindOf id == some .local && pos.line == l then some id else none | _ => none : Expr → Option Str) x).isNone) = true
  | [], h => by cases h
  | n :: ns, h => by
    rw [List.any_cons, Bool.or_eq_true] at h
    rw [List.map_cons, List.any_cons, Bool.or_eq_true]
    rcases h with h | h
    · left
      rw [Bool.not_eq_true'] at h
      show (if env.kindOf n.x == some .local && n.p.line == l then some n.x else none).isNone = true
      rw [nolcl_of h]; rfl
    · right
      exact any_none env l ns h
theorem sw_none {ns : List Nm} {es : List E} {kt k2 : Nat} {pt pt2 : Pos} {env : PySem.Env} (h : noswB env.scope ns (E.pys es) = true) :
    swappedStores [.Tuple (ns.map nmT) kt pt] (.Tuple (E.pys es) k2 pt2) env = pure none := by
  unfold noswB at h
  rw [Bool.or_eq_true] at h
  rcases h with h | h
  · unfold swappedStores
    rw [Bool.or_eq_true] at h
    rcases h with h | h
    · simp only [List.length_map, h, Bool.true_or, if_true]
    · simp only [h, if_true, ite_self]
  · have e3 := fm_lt _ _ (any_none env (((ns.map nmT).head?.map (·.pos.line)).getD 0) ns h)
    unfold swappedStores
    generalize hnn : ((ns.map nmT).filterMap fun | .Name id pos => if env.kindOf id == some .local && pos.line == (((ns.map nmT).head?.map (·.pos.line)).getD 0) then some id else none | _ => none : List Str) = nn at e3
    have cong : ∀ (nn : List Str), nn.length < (ns.map nmT).length → (if (nn.length != (ns.map nmT).length || nn.eraseDups.length != nn.length) = true then (pure none : Sem (Option (List Str))) else
        if ((E.pys es).all (foldedForSure 8)) = true then pure none else if ((E.pys es).all (constantsAlone 8)) = true then (do unsupported "assign.tuple-of-constant-expressions:order-of-the-stores"; pure (some nn)) else pure (some nn)) = pure none := by
      intro nn hl
      rw [if_pos]
      rw [Bool.or_eq_true]
      left
      simpa using Nat.ne_of_lt hl
    have z := cong nn e3
    rw [← hnn] at z
    show (if (!((ns.map nmT).length == 2 || (ns.map nmT).length == 3) || (E.pys es).length != (ns.map nmT).length || env.blockKind != .function) = true then (pure none : Sem (Option (List Str))) else
      if ((E.pys es).any fun | .Starred .. => true | _ => false) = true then pure none else _) = pure none
    refine (ite_congr rfl (fun _ => rfl) fun _ => (ite_congr rfl (fun _ => rfl) fun _ => ?_).trans (ite_self _)).trans (ite_self _)
    exact z
section
variable {C : Nat → D} {Γ : Fns} {cn fn : Nat → Str} {sub : Str → Str → Option Bool} {xn : Str → Bool}
variable {X : Cx} {W : WX} {R0 Rb R R1 : RE} {H0 H H1 : Hp} {ρ : Env} {σ : L2.St} {E' : Ends}
theorem rTs_len {R : RE} {H Hs : Hp} : ∀ {ts : List T} {vs : List V}, rTs R H Hs ts vs → ts.length = vs.length
  | [], _, h => by cases h; rfl
  | t :: ts, _, h => by
    obtain ⟨v, r, rfl, _, h2, _⟩ := h
    rw [List.length_cons, List.length_cons, rTs_len h2]
theorem rTs.after {R R1 : RE} {H H1 Hs : Hp} (p : Post R H R1 H1) : ∀ {ts : List T} {vs : List V}, rTs R H Hs ts vs → rTs R1 H1 Hs ts vs
  | [], _, h => h
  | t :: ts, _, h => by
    obtain ⟨v, r, e, h1, h2, h3⟩ := h
    exact ⟨v, r, e, h1.after p, rTs.after p h2, h3⟩
theorem evTs_len : ∀ {ns : List Nm} {es : List E} {ts : List T}, evTs C Γ ns es ρ = .ok ts → ts.length = ns.length
  | [], [], ts, h => by cases h; rfl
  | n :: ns, e :: es, ts, h => by
    unfold evTs at h
    cases et : evT C Γ n.own e ρ with
    | ok t =>
      rw [et] at h
      cases es' : evTs C Γ ns es ρ with
      | ok ts' => rw [es'] at h; cases h; rw [List.length_cons, List.length_cons, evTs_len es']
      | exc _ _ => rw [es'] at h; cases h
      | fail => rw [es'] at h; cases h
    | exc _ _ => rw [et] at h; cases h
    | fail => rw [et] at h; cases h
  | [], _ :: _, _, h => by cases h
  | _ :: _, [], _, h => by cases h
/-- names take values in order -/
def gNms : List Nm → TGs
  | [] => gNil
  | n :: ns => gCons (gName n.i) (gNms ns)
theorem pgs_nms (nd : X.N.Nodup) : ∀ (ns : List Nm), ns.all (nmB X.N X.env.scope X.fn) = true → PGs X (ns.map nmT) (gNms ns)
  | [], _ => pgs_nil
  | n :: ns, h => by
    rw [List.all_cons, Bool.and_eq_true] at h
    have h1 := h.1
    simp only [nmB, Bool.and_eq_true, decide_eq_true_eq] at h1
    obtain ⟨l1, l2⟩ := loc_of h1.2
    exact pgs_cons (pg_name nd h1.1 l1 l2) (pgs_nms nd ns h.2) (by rfl)
theorem gNms_of : ∀ {ns : List Nm} {vs : List V} {σ : L2.St} {H : Hp} {Q : L2.St → Hp → Prop}, ns.length = vs.length → Q (setVs ns vs σ) H → gNms ns vs σ H Q
  | [], [], σ, H, Q, _, q => ⟨rfl, q⟩
  | n :: ns, v :: vs, σ, H, Q, l, q => ⟨v, vs, rfl, gNms_of (by simpa using l) q⟩
  | [], _ :: _, _, _, _, l, _ => by cases l
  | _ :: _, [], _, _, _, l, _ => by cases l
theorem nmT_len (ns : List Nm) (env : PySem.Env) : (assignEach (ns.map nmT) env).length = ns.length ∧ (assignEach (ns.map nmT) env).findIdx? (·.1) = none := by
  induction ns with
  | nil => exact ⟨rfl, rfl⟩
  | cons n ns ih =>
    refine ⟨?_, ?_⟩
    · show (_ :: assignEach (ns.map nmT) env).length = _
      rw [List.length_cons, ih.1, List.length_cons]
    · show List.findIdx? (·.1) ((false, assign (nmT n) env) :: assignEach (ns.map nmT) env) = none
      rw [List.findIdx?_cons, ih.2]; rfl
theorem dist2 {i j : Nat} {r : List Nat} (h : distB (i :: j :: r) = true) : i ≠ j := by
  simp only [distB, Bool.and_eq_true, Bool.not_eq_true'] at h
  intro e
  subst e
  simp at h
theorem s1_par {ns : List Nm} {es : List E} {kt : Nat} {pt : Pos} {k2 : Nat} {pt2 p : Pos} (k : Ks X W C Γ cn fn sub xn) (st : StR X R0 H0 Rb ρ σ R H) (ck : (S.par ns es kt pt k2 pt2 p).chk cn fn xn X.N X.env.scope X.fn = true)
    (fs : FinS X W R0 H0 Rb (evS C Γ sub (.par ns es kt pt k2 pt2 p) ρ) E') : WS1 X (.Assign [.Tuple (ns.map nmT) kt pt] (.Tuple (E.pys es) k2 pt2) p) E' σ H := by
  simp only [S.chk, Bool.and_eq_true, decide_eq_true_eq] at ck
  obtain ⟨⟨⟨⟨⟨k1, k2'⟩, k3⟩, k0⟩, k4⟩, k5⟩ := ck
  rw [evS] at fs
  have key : ∀ (Q : List V → Hp → Prop), (∀ vs R1 H1, vs.length = ns.length → RIn R1 H1 → (∀ R2 H2, Post R1 H1 R2 H2 → E'.nx (setVs ns vs σ) H2) → Q vs H1) → WA X (E.pys es) σ H Q := fun Q q => by
    refine ts_ok (ns := ns) (k.cd st) k2' ?_
    cases et : evTs C Γ ns es ρ with
    | ok ts =>
      rw [et] at fs
      intro vs R1 H1 p1 r1
      have l1 := rTs_len r1
      have l2 := evTs_len et
      refine q vs R1 H1 (by rw [← l1, l2]) p1.rin fun R2 H2 p2 => fs _ R2 H2 ?_
      exact setTs_ok (Hs := H) (fun a z => st.post.same.free z) ((st.after p1).after p2) (r1.after p2) (sep_of st r1) l2.symm
    | exc c a => rw [et] at fs; exact fs σ R H st.post
    | fail => rw [et] at fs; exact fs.elim
  have tupv : (E.tup [] k2 pt2).isLc = false := rfl
  have sw : swapsWithSole [.Tuple (ns.map nmT) kt pt] (.Tuple (E.pys es) k2 pt2) p.line X.env = pure false := rfl
  rcases Bool.or_eq_true_iff.mp k5 with h | h
  · have hw := sw_some (kt := kt) (k2 := k2) (pt := pt) (pt2 := pt2) k.kind k3 h
    simp only [swapB, Bool.and_eq_true, Bool.or_eq_true, beq_iff_eq] at h
    have hlen := h.1.1.1.1.1
    have hlcl := h.1.1.1.1.2
    match ns, es, k1, k3, k4, hw, hlcl, key, hlen with
    | [n1, n2], [a, b], k1, k3, k4, hw, hlcl, key, _ =>
      simp only [List.all_cons, List.all_nil, nmB, Bool.and_eq_true, decide_eq_true_eq, Bool.and_true] at k1 hlcl
      refine WS1.of (ps_par k.kn.calm k.kn.nd k1.1.1 k1.2.1 (dist2 k4) (lcl_of hlcl.1) (lcl_of hlcl.2) (pa_wa _) hw sw) ?_
      refine key _ fun vs R1 H1 l x1 q => ?_
      match vs, l, q with
      | [v, w], _, q => exact ⟨v, w, rfl, q R1 H1 (.refl x1)⟩
    | [n1, n2, n3], [a, b, c], k1, k3, k4, hw, hlcl, key, _ =>
      simp only [List.all_cons, List.all_nil, nmB, Bool.and_eq_true, decide_eq_true_eq, Bool.and_true] at k1 hlcl
      have d12 := dist2 k4
      have d13 : n1.i ≠ n3.i := by
        simp only [List.map_cons, List.map_nil, distB, Bool.and_eq_true, Bool.not_eq_true'] at k4
        intro e
        have := k4.1
        simp [e] at this
      have d23 : n2.i ≠ n3.i := by
        simp only [List.map_cons, List.map_nil, distB, Bool.and_eq_true, Bool.not_eq_true'] at k4
        intro e
        have := k4.2.1
        simp [e] at this
      refine WS1.of (ps_par3 k.kn.calm k.kn.nd k1.1.1 k1.2.1.1 k1.2.2.1 d12 d13 d23 (lcl_of hlcl.1) (lcl_of hlcl.2.1) (lcl_of hlcl.2.2) (pa_wa _) hw sw) ?_
      refine key _ fun vs R1 H1 l x1 q => ?_
      match vs, l, q with
      | [v, w, x], _, q => exact ⟨v, w, x, rfl, q R1 H1 (.refl x1)⟩
    | [], _, _, _, _, _, _, _, hl => simp at hl
    | [_], _, _, _, _, _, _, _, hl => simp at hl
    | _ :: _ :: _ :: _ :: _, _, _, _, _, _, _, _, hl => simp at hl
    | [_, _], [], _, k3, _, _, _, _, _ => simp at k3
    | [_, _], [_], _, k3, _, _, _, _, _ => simp at k3
    | [_, _], _ :: _ :: _ :: _, _, k3, _, _, _, _, _ => simp at k3
    | [_, _, _], [], _, k3, _, _, _, _, _ => simp at k3
    | [_, _, _], [_], _, k3, _, _, _, _, _ => simp at k3
    | [_, _, _], [_, _], _, k3, _, _, _, _, _ => simp at k3
    | [_, _, _], _ :: _ :: _ :: _ :: _, _, k3, _, _, _, _, _ => simp at k3
  · have hw := sw_none (kt := kt) (k2 := k2) (pt := pt) (pt2 := pt2) (env := X.env) h
    obtain ⟨n1, n2⟩ := nmT_len ns X.env
    refine WS1.of (ps_asg (pe_tup (pa_wa _)) (pg_tup k.kn.calm (pgs_nms k.kn.nd ns k1) n1 n2) sw hw (by rfl)) ?_
    refine key _ fun vs R1 H1 l x1 q => ⟨by rw [l, sizeLine_eq]; omega, fun a n => ?_⟩
    refine ⟨a, vs, rfl, .inl (.inl upd_same), l, gNms_of l.symm ?_⟩
    exact q _ _ (.new x1 1 n)

/-! ### exceptions -/
theorem s1_rse {c : Str} {e : E} {p0 p1 p : Pos} (k : Ks X W C Γ cn fn sub xn) (st : StR X R0 H0 Rb ρ σ R H) (ck : (S.rse c e p0 p1 p).chk cn fn xn X.N X.env.scope X.fn = true)
    (fs : FinS X W R0 H0 Rb (evS C Γ sub (.rse c e p0 p1 p) ρ) E') : WS1 X (.Raise (some (.Call (.Name c p0) [e.py] [] p1)) none p) E' σ H := by
  simp only [S.chk, Bool.and_eq_true] at ck
  obtain ⟨⟨k1, k2⟩, k3⟩ := ck
  obtain ⟨g1, g2⟩ := gl_of k2
  obtain ⟨Cc, hC⟩ := k.kx.nm c k1
  rw [evS] at fs
  refine WS1.of (ps_raise k.kn.calm k.tk (k.kx.mak c Cc k1 hC X rfl rfl rfl rfl rfl rfl k.kn.calm g1 e p0 p1)) ?_
  refine (e_ok e).1 (k.cd st) k3 (FinS.ofE st fs fun d v R1 H1 e1 p1 r1 f1 st1 dd n => ?_)
  obtain ⟨d, l⟩ := d
  cases l with
  | succ l => exact f1.elim
  | zero =>
    have f1 : ∀ σ R H, Post R0 H0 R H → Exq X W σ R H c d := f1
    have p2 : Post R1 H1 R1 (upd H1 dd (.xd [(atS, v)])) := by
      have q := Post.new (o := .xd [(atS, v)]) p1.rin 1 n
      exact ⟨.refl R1, p1.rin.same q.same, q.same, fun _ _ z => .inl z, fun _ _ z => .inl z⟩
    exact f1 σ R1 H1 st1.post Cc hC R1 _ dd v p2 r1 upd_same
/-- an expression of an except suite -/
def US (X : Cx) (a : Addr) (cls : Value) (d : Option Addr) (e : Expr) (σ : L2.St) (H : Hp) (Q : VK) : Prop := ∀ oe pn, Zc cls d oe → (∃ vs, oe.data = .fields vs) → WE (X.suite a ((a, oe) :: pn)) e σ H Q
theorem evHEs_len : ∀ (es : List HE) (d : D), (evHEs es d).length = es.length
  | [], _ => rfl
  | e :: es, d => by rw [evHEs, List.length_cons, List.length_cons, evHEs_len es d]
theorem hpys_plain (e : HE) (rest : List Expr) (env : PySem.Env) : starEach (e.py :: rest) env = (false, eval e.py env) :: starEach rest env := by
  cases e <;> (simp only [HE.py]; rfl)
mutual
theorem he_ok {a Cc dd : Addr} {v0 : V} {d0 : D} {i : Nat} (hx : XfC X.K Cc) (hn : PySem.W.findIn X.K (.ref Cc) atS = some none) : ∀ (e : HE) {R : RE} {H : Hp} {Q : VK}, e.chk X.N X.env.scope i = true → (∀ j, j = i → j < X.N.length → σ.length = X.N.length → σ[j]? = some (some (.ref a))) → RIn R H → H dd = some (.xd [(atS, v0)]) → Rep R 0 d0 v0 →
    (∀ v R' H', Post R H R' H' → Rep R' 0 (evHE e d0) v → Q v H') → US X a (.ref Cc) (some dd) e.py σ H Q
  | .at j x p p', R, H, Q, ck, hs, x1, hd, r, q => by
    simp only [HE.chk, Bool.and_eq_true, decide_eq_true_eq, Bool.not_eq_true', beq_iff_eq] at ck
    intro oe pn hz hf pins s I
    have w : WE (X.suite a ((a, oe) :: pn)) (.Attribute (.Name x p) "at" p') σ H Q := by
      refine WE.of (pe_xf hx hn hz hf (pe_var (X := X.suite a ((a, oe) :: pn)) ck.1.1.1.1 (vis_of ck.1.1.2) ck.1.2 ck.2)) ?_
      exact ⟨.ref a, hs j ck.1.1.1.2.symm (List.getElem?_eq_some_iff.mp ck.1.1.1.1).1 I.len, rfl, rfl, dd, [(atS, v0)], v0, rfl, hd, rfl, q v0 R H (.refl x1) r⟩
    exact w pins s I
  | .non j p, R, H, Q, ck, hs, x1, hd, r, q => fun oe pn hz hf => WE.of pe_non (q _ R H (.refl x1) rfl)
  | .bl b j p, R, H, Q, ck, hs, x1, hd, r, q => fun oe pn hz hf => WE.of pe_bl (q _ R H (.refl x1) rfl)
  | .int n j p, R, H, Q, ck, hs, x1, hd, r, q => fun oe pn hz hf => WE.of pe_int (q _ R H (.refl x1) rfl)
  | .str s j p, R, H, Q, ck, hs, x1, hd, r, q => fun oe pn hz hf => WE.of pe_str (q _ R H (.refl x1) rfl)
  | .tup es k p, R, H, Q, ck, hs, x1, hd, r, q => by
    simp only [HE.chk, Bool.and_eq_true, decide_eq_true_eq] at ck
    intro oe pn hz hf
    refine WE.of (pe_tup (pa_wa _)) ?_
    refine hes_ok hx hn es ck.1 hs x1 hd r (fun vs R' H' p' r' => ⟨?_, fun t n => ?_⟩) oe pn hz hf
    · rw [← r'.length, evHEs_len, sizeLine_eq]; omega
    · exact q _ _ _ (p'.trans (.new p'.rin 0 n)) (Rep.newT p'.rin n r')
theorem hes_ok {a Cc dd : Addr} {v0 : V} {d0 : D} {i : Nat} (hx : XfC X.K Cc) (hn : PySem.W.findIn X.K (.ref Cc) atS = some none) : ∀ (es : List HE) {R : RE} {H : Hp} {Q : List V → Hp → Prop}, HE.chks X.N X.env.scope i es = true → (∀ j, j = i → j < X.N.length → σ.length = X.N.length → σ[j]? = some (some (.ref a))) → RIn R H → H dd = some (.xd [(atS, v0)]) → Rep R 0 d0 v0 →
    (∀ vs R' H', Post R H R' H' → Reps R' 0 (evHEs es d0) vs → Q vs H') → ∀ oe pn, Zc (.ref Cc) (some dd) oe → (∃ vs, oe.data = .fields vs) → WA (X.suite a ((a, oe) :: pn)) (HE.pys es) σ H Q
  | [], R, H, Q, ck, hs, x1, hd, r, q => fun oe pn hz hf => WA.of pa_nil (q [] R H (.refl x1) rfl)
  | e :: es, R, H, Q, ck, hs, x1, hd, r, q => by
    simp only [HE.chks, Bool.and_eq_true] at ck
    intro oe pn hz hf
    refine WA.of (pa_cons (pe_we _) (pa_wa _) (hpys_plain _ _ _)) ?_
    refine he_ok hx hn e ck.1 hs x1 hd r (fun v R1 H1 p1 r1 => ?_) oe pn hz hf
    refine hes_ok hx hn es ck.2 hs p1.rin (p1.same _ _ hd) (Rep.ext p1.ex _ _ _ r) (fun vs R2 H2 p2 r2 => ?_) oe pn hz hf
    exact q (v :: vs) R2 H2 (p1.trans p2) ⟨v, vs, rfl, Rep.ext p2.ex _ _ _ r1, r2⟩
end
def tsOf (X : Cx) (e : Expr) : Addr → Value → Option Addr → TS := fun a cls d D σ H => US X a cls d e σ H D.rt
theorem hds_ok (k : Ks X W C Γ cn fn sub xn) : ∀ (hs : List Hd), hs.all (Hd.chk xn X.N X.env.scope) = true → ∃ l : List Cls, HdsM X (hs.map Hd.py) l ∧
    ∀ {c : Str} {a : D} {Cc dd : Addr} {v0 : V} {R : RE} {H : Hp} {σ : L2.St} {E' : Ends}, X.mg c = some (.ref Cc) → Post R0 H0 R H → Rep R 0 a v0 → H dd = some (.xd [(atS, v0)]) → FinS X W R0 H0 Rb (evHds sub hs c a) E' → wMix X.K W E' l (.ref Cc) (some dd) σ H
  | [], _ => ⟨[], .nil, fun {c a Cc dd v0 R H σ E'} hc p r hd fs => fs σ R H p Cc hc R H dd v0 (.refl p.rin) r hd⟩
  | h :: hs, ck => by
    rw [List.all_cons, Bool.and_eq_true] at ck
    obtain ⟨l, hm, hp⟩ := hds_ok k hs ck.2
    have c1 := ck.1
    simp only [Hd.chk, Bool.and_eq_true] at c1
    obtain ⟨⟨x1, x2⟩, x3⟩ := c1
    obtain ⟨g1, g2⟩ := gl_of x2
    obtain ⟨C2, hC2⟩ := k.kx.nm h.c x1
    have names : Names X h.c (.ref C2) := ⟨g1, g2, .inl hC2⟩
    have suite : ∀ (a : Addr) (oe : Obj) (cls : Value) (d : Option Addr) (pn : List (Addr × Obj)), Zc cls d oe → (∃ vs, oe.data = .fields vs) → PSs (X.suite a ((a, oe) :: pn)) [.Return (some h.e.py) h.rp] (tsOf X h.e.py a cls d) := fun a oe cls d pn hz hf =>
      pss_one ⟨fun pins s σ H D I q => (ps_ret (pe_we h.e.py)).run pins s σ H D I (q oe pn hz hf)⟩
    have go : ∀ (on : Option Nat), (∀ (σ : L2.St) (a' : Addr) {c : Str} {a : D} {Cc dd : Addr} {v0 : V} {R : RE} {H : Hp} {E' : Ends}, XfC X.K Cc → PySem.W.findIn X.K (.ref Cc) atS = some none → Post R0 H0 R H → Rep R 0 a v0 → H dd = some (.xd [(atS, v0)]) → FinS X W R0 H0 Rb (.ok (.rt (evHE h.e a))) E' → runC E' σ H a' (.ref Cc) (some dd) on (tsOf X h.e.py)) →
        ∀ {c : Str} {a : D} {Cc dd : Addr} {v0 : V} {R : RE} {H : Hp} {σ : L2.St} {E' : Ends}, X.mg c = some (.ref Cc) → Post R0 H0 R H → Rep R 0 a v0 → H dd = some (.xd [(atS, v0)]) → FinS X W R0 H0 Rb (evHds sub (h :: hs) c a) E' → wMix X.K W E' ((.ref C2, on, tsOf X h.e.py) :: l) (.ref Cc) (some dd) σ H := by
      intro on run c a Cc dd v0 R H σ E' hc p r hd fs
      unfold evHds at fs
      split at fs
      · rename_i e
        obtain ⟨f1, f2⟩ := k.kx.xf c h.c Cc e hc
        exact ⟨true, k.kx.exm c h.c true Cc C2 e hc hC2, (fun _ a' _ => run σ a' (c := c) f1 f2 p r hd fs), (fun z => absurd z.symm Bool.false_ne_true)⟩
      · rename_i e
        exact ⟨false, k.kx.exm c h.c false Cc C2 e hc hC2, (fun z => absurd z Bool.false_ne_true), fun _ => hp hc p r hd fs⟩
      · exact fs.elim
    cases hnm : h.nm with
    | none =>
      rw [hnm] at x3
      simp only [Bool.and_eq_true, decide_eq_true_eq] at x3
      refine ⟨(.ref C2, none, tsOf X h.e.py) :: l, ?_, go none fun σ a' c a Cc dd v0 R H E' f1 f2 p r hd fs => ?_⟩
      · show HdsM X (Hd.py h :: hs.map Hd.py) _
        unfold Hd.py
        rw [hnm]
        exact .cons names suite hm
      · exact he_ok f1 f2 h.e x3.1 (fun j e1 e2 => by omega) p.rin hd r fun v R' H' p' r' => fs v R' H' (p.trans p') r'
    | some ix =>
      obtain ⟨i, x⟩ := ix
      rw [hnm] at x3
      simp only [Bool.and_eq_true, decide_eq_true_eq] at x3
      refine ⟨(.ref C2, some i, tsOf X h.e.py) :: l, ?_, go (some i) fun σ a' c a Cc dd v0 R H E' f1 f2 p r hd fs => ?_⟩
      · show HdsM X (Hd.py h :: hs.map Hd.py) _
        unfold Hd.py
        rw [hnm]
        exact .as_ names k.kn.nd x3.1.2 (lcl_of x3.2) suite hm
      · refine he_ok (σ := σ.set i (some (.ref a'))) f1 f2 h.e x3.1.1 (fun j e1 e2 e3 => ?_) p.rin hd r fun v R' H' p' r' => fs v R' H' (p.trans p') r'
        subst e1
        rw [List.getElem?_set_self (by rw [List.length_set] at e3; rw [e3]; exact e2)]

/-! ### all statements -/
def SSs (C : Nat → D) (Γ : Fns) (cn fn : Nat → Str) (sub : Str → Str → Option Bool) (xn : Str → Bool) (ss : List S) : Prop := ∀ {X : Cx} {W : WX} {R0 Rb R : RE} {H0 H : Hp} {ρ : Env} {σ : L2.St} {E' : Ends}, Ks X W C Γ cn fn sub xn → StR X R0 H0 Rb ρ σ R H → S.chks cn fn xn X.N X.env.scope X.fn ss = true →
  FinS X W R0 H0 Rb (evSs C Γ sub ss ρ) E' → WSs X (S.pys ss) E' σ H
def S1 (C : Nat → D) (Γ : Fns) (cn fn : Nat → Str) (sub : Str → Str → Option Bool) (xn : Str → Bool) (s : S) : Prop := ∃ st, s.py = [st] ∧ ∀ {X : Cx} {W : WX} {R0 Rb R : RE} {H0 H : Hp} {ρ : Env} {σ : L2.St} {E' : Ends}, Ks X W C Γ cn fn sub xn → StR X R0 H0 Rb ρ σ R H → s.chk cn fn xn X.N X.env.scope X.fn = true →
  FinS X W R0 H0 Rb (evS C Γ sub s ρ) E' → WS1 X st E' σ H
theorem FinS.mono {E1 E2 : Ends} {Rb' : RE} {r : Ev.R O} (f : FinS X W R0 H0 Rb r E1) (h : ∀ {ρ σ R H}, StR X R0 H0 Rb' ρ σ R H → StR X R0 H0 Rb ρ σ R H) (n : ∀ ρ, r = .ok (.nx ρ) → (∀ σ R H, StR X R0 H0 Rb ρ σ R H → E1.nx σ H) → ∀ σ R H, StR X R0 H0 Rb' ρ σ R H → E2.nx σ H)
    (b : ∀ σ H, E1.bk σ H → E2.bk σ H) (c : ∀ σ H, E1.ct σ H → E2.ct σ H) (t : ∀ v H, E1.rt v H → E2.rt v H) : FinS X W R0 H0 Rb' r E2 := by
  cases r with
  | ok o =>
    cases o with
    | nx ρ => exact n ρ rfl f
    | bk ρ => exact fun σ R H s => b _ _ (f σ R H (h s))
    | ct ρ => exact fun σ R H s => c _ _ (f σ R H (h s))
    | rt d => exact fun v R H p r => t _ _ (f v R H p r)
  | exc c a => exact f
  | fail => exact f
theorem s_tri {b : List S} {hs : List Hd} {p : Pos} (h : SSs C Γ cn fn sub xn b) : S1 C Γ cn fn sub xn (.tri b hs p) := by
  refine ⟨_, rfl, ?_⟩
  intro X W R0 Rb R H0 H ρ σ E' k st ck fs
  simp only [S.chk, Bool.and_eq_true, Bool.not_eq_true'] at ck
  obtain ⟨⟨k1, k2⟩, k3⟩ := ck
  obtain ⟨l, hm, hp⟩ := hds_ok (R0 := R0) (H0 := H0) (Rb := Rb) k hs k2
  rw [evS] at fs
  cases hs with
  | nil => cases k3
  | cons h0 hs =>
    refine WS1.of (ps_try_mix k.hs k.hf k.tk (tb := fun W' D σ H => ∀ (pn : List (Addr × Obj)) (xe : Value → Shared → Prop), Takes (X.tr pn xe) W' → PassesOwn (model X.prog X.w) X.A X.env xe → WSs (X.tr pn xe) (S.pys b) D σ H)
      (fun W' pn xe tk ow => ⟨fun pins s σ H D I q => q pn xe tk ow pins s I⟩) hm) ?_
    intro pn xe tk ow
    have k' : Ks (X.tr pn xe) (wMix X.K W E' l) C Γ cn fn sub xn := ⟨⟨k.kn.calm, k.kn.room, k.kn.nd, k.kn.blt, k.kn.rng, k.kn.enu, k.kn.zip, k.kn.cst⟩, ⟨k.kx.nm, k.kx.exm, k.kx.xf, k.kx.mak⟩, tk, ow, k.hs, k.hf, k.kind⟩
    have st' : StR (X.tr pn xe) R0 H0 Rb ρ σ R H := ⟨st.rel, st.rin, st.eK, st.ew, st.rin0, st.post, st.bx, st.bG, st.own⟩
    refine h k' st' k1 ?_
    cases eb : evSs C Γ sub b ρ with
    | ok o =>
      rw [eb] at fs
      have back : ∀ {ρ σ R H}, StR (X.tr pn xe) R0 H0 Rb ρ σ R H → StR X R0 H0 Rb ρ σ R H := fun s => ⟨s.rel, s.rin, s.eK, s.ew, s.rin0, s.post, s.bx, s.bG, s.own⟩
      cases o with
      | nx ρ => exact fun σ R H s => fs σ R H (back s)
      | bk ρ => exact fun σ R H s => fs σ R H (back s)
      | ct ρ => exact fun σ R H s => fs σ R H (back s)
      | rt d => exact fs
    | exc c a =>
      rw [eb] at fs
      exact fun σ R H p Cc hc R' H' dd v p' r' hd => hp hc (p.trans p') r' hd fs
    | fail => rw [eb] at fs; exact fs.elim
theorem s_ifs {c : E} {a b : List S} {p : Pos} (ha : SSs C Γ cn fn sub xn a) (hb : SSs C Γ cn fn sub xn b) : S1 C Γ cn fn sub xn (.ifs c a b p) := by
  refine ⟨_, rfl, ?_⟩
  intro X W R0 Rb R H0 H ρ σ E' k st ck fs
  simp only [S.chk, Bool.and_eq_true, Bool.not_eq_true'] at ck
  rw [evS] at fs
  refine WS1.of (ps_if (pt_wt _) (pss_ws _) (pss_ws _)) ?_
  refine tru_step k st ck.1.1.1 ck.1.1.2 fs fun b' R1 H1 f1 st1 => ?_
  cases b' with
  | true => rw [if_pos rfl]; exact ha k st1 ck.1.2 f1
  | false => rw [if_neg Bool.false_ne_true]; exact hb k st1 ck.2 f1
theorem s_for {t : Tg} {it : I} {b : List S} {p : Pos} (h : SSs C Γ cn fn sub xn b) : S1 C Γ cn fn sub xn (.forr t it b p) := by
  refine ⟨_, rfl, ?_⟩
  intro X W R0 Rb R H0 H ρ σ E' k st ck fs
  simp only [S.chk, Bool.and_eq_true] at ck
  obtain ⟨⟨⟨k1, k2⟩, k3⟩, k4⟩ := ck
  rw [evS] at fs
  refine WS1.of (ps_for k.own k.kn.calm (pi_wi _ _) (pg_wg _) (pss_ws _) (fold_I _ _)) ?_
  refine i0_ok it t (fun h => by rw [h] at k3; simpa using k3) (k.cd st) k2 ?_
  cases ei : evI0 C Γ it ρ with
  | ok xs =>
    rw [ei] at fs
    have fs : FinS X W R0 H0 Rb (forLoop t.bind (fun ρ' => evSs C Γ sub b ρ') xs ρ) E' := fs
    intro J R1 H1 p1 wk
    have st1 := st.after p1
    have bxF : REx R1.fz R1 := ⟨rfl, rfl, fun _ _ z => z, fun a u z => p1.rin.inn a u z, fun _ _ z => z, fun _ _ z => z, fun _ _ z => z⟩
    have st1' : StR X R0 H0 R1.fz ρ σ R1 H1 := ⟨st1.rel, st1.rin, st1.eK, st1.ew, st1.rin0, st1.post, bxF, fun _ _ z => z, st1.own⟩
    have weak : ∀ {ρ σ R H}, StR X R0 H0 R1.fz ρ σ R H → StR X R0 H0 Rb ρ σ R H := fun s => ⟨s.rel, s.rin, s.eK, s.ew, s.rin0, s.post,
      ⟨s.bx.K.trans st1.bx.K, s.bx.w.trans st1.bx.w, fun a u z => s.bx.F a u (st1.bx.F a u z), fun a u z => s.rin.inn a u (s.bx.F a u (st1.bx.F a u (st1.bG a u z))), fun n a z => s.bx.μ n a (st1.bx.μ n a z), fun n a z => s.bx.S n a (st1.bx.S n a z), fun n a z => st1.bx.S' n a (s.bx.S' n a z)⟩, st1.bG, s.own⟩
    refine ⟨fun i m σ' H' => m = xs.length - i ∧ i ≤ xs.length ∧ ∃ ρ' R', StR X R0 H0 R1.fz ρ' σ' R' H' ∧ FinS X W R0 H0 Rb (forLoop t.bind (fun ρ' => evSs C Γ sub b ρ') (xs.drop i) ρ') E', ⟨xs.length, rfl, Nat.zero_le _, ρ, R1, st1', by rw [List.drop_zero]; exact fs⟩, ?_⟩
    rintro i m σ2 H2 ⟨rfl, hi, ρ2, R2, st2, f2⟩
    by_cases hlt : i < xs.length
    · rw [List.drop_eq_getElem_cons hlt] at f2
      have rz : RIn R1.fz H2 := st2.rin.less st2.bx (RE.fz_in R1)
      refine .inr ⟨wk.go i H2 hlt rz, fun σ' H' => ∃ ρ' R', StR X R0 H0 R1.fz ρ' σ' R' H' ∧ FinS X W R0 H0 Rb (forLoop t.bind (fun ρ' => evSs C Γ sub b ρ') (xs.drop (i + 1)) ρ') E', fun σ' H' ⟨ρ', R', s', f'⟩ => ⟨xs.length - (i + 1), by omega, rfl, hlt, ρ', R', s', f'⟩, fun v H3 hy => ?_⟩
      obtain ⟨R3, p3, r3⟩ := wk.yld i xs[i] H2 v H3 (List.getElem?_eq_getElem hlt) rz hy R2 st2.bx st2.rin
      have st3 := st2.after p3
      unfold forLoop at f2
      split at f2
      · exact f2.elim
      · rename_i ρ3 eb
        refine tgS_ok k.kn.calm k.kn.nd _ t xs[i].1 xs[i].2 ρ2 ρ3 σ2 v _ k1 eb r3 st3 fun σ4 st4 => ?_
        refine h k st4 k4 ?_
        split at f2
        · rename_i ρ5 e5
          rw [e5]
          exact fun σ6 R6 H6 s6 => ⟨ρ5, R6, s6, f2⟩
        · rename_i ρ5 e5
          rw [e5]
          exact fun σ6 R6 H6 s6 => ⟨ρ5, R6, s6, f2⟩
        · rename_i ρ5 e5
          rw [e5]
          exact fun σ6 R6 H6 s6 => f2 σ6 R6 H6 (weak s6)
        · rename_i d e5
          rw [e5]
          exact f2
        · rename_i c a e5
          rw [e5]
          exact f2
        · exact f2.elim
    · have hi2 : i = xs.length := by omega
      subst hi2
      rw [List.drop_length] at f2
      have rz : RIn R1.fz H2 := st2.rin.less st2.bx (RE.fz_in R1)
      exact .inl ⟨wk.stop H2 rz, f2 σ2 R2 H2 (weak st2)⟩
  | exc c a => rw [ei] at fs; exact fs σ R H st.post
  | fail => rw [ei] at fs; exact fs.elim
theorem ss_nil : SSs C Γ cn fn sub xn [] := fun k st ck fs => WSs.of pss_nil (by rw [evSs] at fs; exact fs _ _ _ st)
theorem ss_cons {s : S} {ss : List S} (h1 : S1 C Γ cn fn sub xn s) (h2 : SSs C Γ cn fn sub xn ss) : SSs C Γ cn fn sub xn (s :: ss) := by
  intro X W R0 Rb R H0 H ρ σ E' k st ck fs
  simp only [S.chks, Bool.and_eq_true] at ck
  rw [evSs] at fs
  obtain ⟨stm, ep, hs⟩ := h1
  rw [S.pys, ep]
  show WSs X (stm :: S.pys ss) E' σ H
  refine WSs.of (pss_cons (ps_ws stm) (pss_ws _)) ?_
  refine hs k st ck.1 ?_
  cases es : evS C Γ sub s ρ with
  | ok o =>
    rw [es] at fs
    cases o with
    | nx ρ' => exact fun σ' R' H' s' => h2 k s' ck.2 fs
    | bk ρ' => exact fs
    | ct ρ' => exact fs
    | rt d => exact fs
  | exc c a => rw [es] at fs; exact fs
  | fail => rw [es] at fs; exact fs.elim
theorem ss_frz {is : List Nat} {ss : List S} (h2 : SSs C Γ cn fn sub xn ss) : SSs C Γ cn fn sub xn (.frz is :: ss) := by
  intro X W R0 Rb R H0 H ρ σ E' k st ck fs
  simp only [S.chks, Bool.and_eq_true] at ck
  rw [evSs, evS] at fs
  obtain ⟨R2, st2, x2⟩ := StR.frzs is st
  exact h2 k st2 ck.2 fs
theorem Bx.mk' {p : Prop} (h : p) : Bx p := ⟨h⟩
mutual
theorem s_ok : ∀ s : S, (∃ is, s = .frz is) ∨ S1 C Γ cn fn sub xn s
  | .set n e p => .inr ⟨_, rfl, fun k st ck fs => s1_set k st ck (by rw [evS] at fs; exact fs)⟩
  | .unp t e p => .inr ⟨_, rfl, fun k st ck fs => s1_unp k st ck fs⟩
  | .par ns es kt pt k2 pt2 p => .inr ⟨_, rfl, fun k st ck fs => s1_par k st ck fs⟩
  | .put n i v pt p => .inr ⟨_, rfl, fun k st ck fs => s1_put k st ck fs⟩
  | .app n e p1 p2 p => .inr ⟨_, rfl, fun k st ck fs => s1_app k st ck fs⟩
  | .exp e p => .inr ⟨_, rfl, fun k st ck fs => s1_exp k st ck fs⟩
  | .ret e p => .inr ⟨_, rfl, fun k st ck fs => s1_ret k st ck fs⟩
  | .ifs c a b p => .inr (s_ifs (ss_ok a).h (ss_ok b).h)
  | .forr t it b p => .inr (s_for (ss_ok b).h)
  | .rse c e p0 p1 p => .inr ⟨_, rfl, fun k st ck fs => s1_rse k st ck fs⟩
  | .tri b hs p => .inr (s_tri (ss_ok b).h)
  | .frz is => .inl ⟨is, rfl⟩
theorem ss_ok : ∀ ss : List S, Bx (SSs C Γ cn fn sub xn ss)
  | [] => ⟨ss_nil⟩
  | s :: ss => ⟨by
    rcases s_ok s with ⟨is, rfl⟩ | h
    · exact ss_frz (ss_ok ss).h
    · exact ss_cons h (ss_ok ss).h⟩
end
end
end Ev
set_option Elab.async false
set_option linter.all false
set_option maxRecDepth 100000
set_option maxHeartbeats 1000000
/-! Ev23: a def of the law, all defs of the law. -/
namespace Ev
open PySem PySem.Spec PyProof.Rows L2
structure Df where
  x : Str
  qual : Str
  st : Stmt
  N : List Str
  ps : List Str
  body : List S
def startE (N : List Str) (ds : List D) : Env := ds.map (fun d => some (.bor d 0)) ++ List.replicate (N.length - ds.length) none
def Df.run (C : Nat → D) (sub : Str → Str → Option Bool) (Γ : Fns) (f : Df) (ds : List D) : R D :=
  if ds.length = f.ps.length then
    match evSs C Γ sub f.body (startE f.N ds) with
    | .ok (.rt d) => .ok d
    | .ok (.nx _) => .ok .non
    | .exc c a => .exc c a
    | _ => .fail
  else .fail
/-- what is seen of a def's text -/
structure Df.Stat (cn fn : Nat → Str) (xn : Str → Bool) (f : Df) : Prop where
  sc : FnScope f.N f.ps (defScope f.st)
  ex : ∃ b, S.pys b = defBody f.st ∧ S.chks cn fn xn f.N (defScope f.st) (fun _ => true) b = true ∧ ∀ (C : Nat → D) (Γ : Fns) (sub : Str → Str → Option Bool), evSs C Γ sub b = evSs C Γ sub f.body
/-- the functions, so many calls deep -/
def deep (C : Nat → D) (sub : Str → Str → Option Bool) (df : Nat → Option Df) : Nat → Fns
  | 0, _, _ => .fail
  | k + 1, n, ds => match df n with
    | some f => f.run C sub (deep C sub df k) ds
    | none => .fail
/-- what is known of the module -/
structure Md (P : Program) (w : World) (K : PySem.W.Frag) (mg : Str → Option Value) (base : Heap) (C : Nat → D) (cn : Nat → Str) (sub : Str → Str → Option Bool) (xn : Str → Bool) : Prop where
  blt : ∀ b : Blt, mg b.nm = none
  rng : mg "range" = none
  enu : mg "enumerate" = none
  zip : mg "zip" = none
  cst : ∀ n, ∃ u v, mg (cn n) = some u ∧ RelV v u ∧ (∀ a, v = .ref a → ∃ o, K.lookup a = some o ∧ o.dict = none) ∧ ∀ R : RE, R.K = K → R.w = w → Rep R 0 (C n) v
  nm : ∀ c, xn c = true → ∃ C, mg c = some (.ref C)
  exm : ∀ c c' b C C', sub c c' = some b → mg c = some (.ref C) → mg c' = some (.ref C') → PySem.W.exmOne K (.ref C) (.ref C') = some b
  xf : ∀ c c' C, sub c c' = some true → mg c = some (.ref C) → XfC K C ∧ PySem.W.findIn K (.ref C) atS = some none
  mak : ∀ c C, xn c = true → mg c = some (.ref C) → ∀ A, Room 4 A → MkC P w K mg base A c C
section
variable {P : Program} {w : World} {K : PySem.W.Frag} {mg : Str → Option Value} {base : Heap} {C : Nat → D} {cn fn : Nat → Str} {sub : Str → Str → Option Bool} {xn : Str → Bool}
theorem start_rel {R : RE} {N : List Str} {ds : List D} {vs : List V} (h : Reps R 0 ds vs) : Rel R (startE N ds) (L2.start N vs) := by
  have l := h.length
  refine ⟨?_, fun i t e => ?_⟩
  · unfold startE L2.start
    rw [List.length_append, List.length_append, List.length_map, List.length_map, List.length_replicate, List.length_replicate, l]
  · unfold startE at e
    by_cases hi : i < ds.length
    · rw [List.getElem?_append_left (by rw [List.length_map]; exact hi), List.getElem?_map, List.getElem?_eq_getElem hi] at e
      cases e
      obtain ⟨v, e1, e2⟩ := h.get (List.getElem?_eq_getElem hi)
      refine ⟨v, ?_, e2⟩
      unfold L2.start
      rw [List.getElem?_append_left (by rw [List.length_map, ← l]; exact hi), List.getElem?_map, e1]; rfl
    · rw [List.getElem?_append_right (by rw [List.length_map]; omega), List.getElem?_replicate] at e
      split at e <;> cases e
theorem start_bor {N : List Str} {ds : List D} {i : Nat} {t : T} (e : (startE N ds)[i]? = some (some t)) : t.owned = false := by
  unfold startE at e
  by_cases hi : i < ds.length
  · rw [List.getElem?_append_left (by rw [List.length_map]; exact hi), List.getElem?_map, List.getElem?_eq_getElem hi] at e
    cases e; rfl
  · rw [List.getElem?_append_right (by rw [List.length_map]; omega), List.getElem?_replicate] at e
    split at e <;> cases e
/-- a def does what its evaluator tells -/
theorem def_ok {k : Nat} {Γ : Fns} {f : Df} {fa : Addr} {fd : FuncData} (M : Md P w K mg base C cn sub xn) (st : f.Stat cn fn xn) (F : Fun K f.x f.qual f.st fa fd)
    (fs : ∀ n, ∃ a, mg (fn n) = some (.ref a) ∧ PySem.W.keepIn K (.ref a) = true ∧ FnR P w K mg base (L2.CX P w) (k + 4) a (spD K w mg (Γ n))) :
    FnOk P w K mg base (L2.CX P w) (k + 5) fa fd f.ps (spD K w mg (f.run C sub Γ)) := by
  refine F.okX st.sc (fun vs H Q E h => ?_) (fun cdv A outer s H vs Q E hr h => ?_)
  · obtain ⟨R, ds, _, _, _, r, q⟩ := h
    by_cases hl : ds.length = f.ps.length
    · rw [← r.length]; exact hl
    · rw [show f.run C sub Γ ds = .fail from if_neg hl] at q
      exact q.elim
  · obtain ⟨R, ds, eK, ew, x, r, q⟩ := h
    obtain ⟨body, py, ck0, ev⟩ := st.ex
    by_cases hl : ds.length = f.ps.length
    · rw [show f.run C sub Γ ds = (match evSs C Γ sub f.body (startE f.N ds) with
        | .ok (.rt d) => .ok d
        | .ok (.nx _) => .ok .non
        | .exc c a => .exc c a
        | _ => .fail) from if_pos hl, ← ev C Γ sub] at q
      refine ⟨_, by rw [← py]; exact pss_ws (S.pys body), ?_⟩
      generalize hX : cxOf (L2.CX P w) P w K mg base f.N f.qual (defScope f.st) fa cdv A outer s H E = X
      have kn : Kn X C Γ cn fn := by
        subst hX
        exact ⟨rfl, ⟨k + 4, hr, fs⟩, st.sc.nd, M.blt, M.rng, M.enu, M.zip, M.cst⟩
      have kx : Kx X sub xn := by
        subst hX
        exact ⟨M.nm, M.exm, M.xf, fun c Cc h1 h2 => M.mak c Cc h1 h2 _ (hr.mono (by omega))⟩
      have tk : Takes X (fun cls d _ H => E cls d H) := by
        subst hX
        exact takes_of rfl rfl rfl rfl
      have ks : Ks X (fun cls d _ H => E cls d H) C Γ cn fn sub xn := by
        refine ⟨kn, kx, tk, ?_, ?_, ?_, ?_⟩
        · subst hX; exact passes_of rfl
        · subst hX; rfl
        · subst hX; rfl
        · subst hX; exact st.sc.kind
      have st0 : StR X R H { R with G := R.F } (startE f.N ds) (L2.start f.N vs) R H := by
        refine ⟨start_rel r, x, by subst hX; exact eK, by subst hX; exact ew, x, .refl x, ⟨rfl, rfl, fun _ _ z => z, fun a u z => x.inn a u z, fun _ _ z => z, fun _ _ z => z, fun _ _ z => z⟩, fun _ _ z => z, fun i t e o => ?_⟩
        rw [start_bor e] at o; cases o
      have ck : S.chks cn fn xn X.N X.env.scope X.fn body = true := by subst hX; exact ck0
      refine (ss_ok body).h ks st0 ck ?_
      cases e : evSs C Γ sub body (startE f.N ds) with
      | ok o =>
        rw [e] at q
        cases o with
        | rt d => exact fun v R' H' p r' => q v R' H' p r'
        | nx ρ => exact fun σ R' H' s' => q .non R' H' s'.post rfl
        | bk ρ => exact q.elim
        | ct ρ => exact q.elim
      | exc c a =>
        rw [e] at q
        intro σ R' H' p Cc hC R2 H2 dd v p2 r2 hd
        have hC' : mg c = some (.ref Cc) := by subst hX; exact hC
        exact q Cc hC' R2 H2 dd v (p.trans p2) r2 hd
      | fail => rw [e] at q; exact q.elim
    · rw [show f.run C sub Γ ds = .fail from if_neg hl] at q
      exact q.elim
/-- all of them, so deep -/
theorem all_ok {df : Nat → Option Df} (M : Md P w K mg base C cn sub xn) (st : ∀ n f, df n = some f → f.Stat cn fn xn) (h : ∀ n, ∃ a, mg (fn n) = some (.ref a) ∧ PySem.W.keepIn K (.ref a) = true ∧ ∀ f, df n = some f → ∃ fd, Fun K f.x f.qual f.st a fd ∧ Binds K fd f.ps []) :
    ∀ k n, ∃ a, mg (fn n) = some (.ref a) ∧ PySem.W.keepIn K (.ref a) = true ∧ FnR P w K mg base (L2.CX P w) (k + 4) a (spD K w mg (deep C sub df k n))
  | 0, n => by
    obtain ⟨a, h1, h2, h3⟩ := h n
    refine ⟨a, h1, h2, ?_⟩
    intro A outer s H us vs Q E hr e0 r hs
    obtain ⟨R, ds, _, _, _, _, q⟩ := hs
    exact q.elim
  | k + 1, n => by
    obtain ⟨a, h1, h2, h3⟩ := h n
    refine ⟨a, h1, h2, ?_⟩
    cases e : df n with
    | none =>
      intro A outer s H us vs Q E hr e0 r hs
      obtain ⟨R, ds, _, _, _, _, q⟩ := hs
      unfold deep at q
      rw [e] at q
      exact q.elim
    | some f =>
      obtain ⟨fd, F, b⟩ := h3 f e
      have g := def_ok (k := k) M (st n f e) F (all_ok M st h k)
      have g2 := FnOk.raw g b (ds := []) .nil
      refine FnR.imp g2 fun vs H Q E hs => ?_
      rw [List.append_nil]
      have e2 : deep C sub df (k + 1) n = f.run C sub (deep C sub df k) := by
        funext ds
        rw [deep, e]
      rw [e2] at hs
      exact hs
end
end Ev
set_option Elab.async false
set_option linter.all false
set_option maxRecDepth 100000
set_option maxHeartbeats 1000000
/-! Ev24: terms from a text. -/
namespace Ev
open PySem PySem.Spec PyProof.Rows L2

/-- names: slots, constants, functions, owned ones, owned ones whose keys are tuples -/
structure Tb where
  N : List Str
  cs : List Str
  fs : List Str
  ow : List Str
  tk : List Str
def look (l : List Str) (x : Str) : Option Nat := l.findIdx? fun y => decide (y = x)
def bltOf (x : Str) : Option Blt :=
  if x = "len" then some .len else if x = "abs" then some .abs else if x = "min" then some .min else if x = "max" then some .max else if x = "int" then some .int else if x = "str" then some .str else if x = "sum" then some .sum
  else if x = "all" then some .all else if x = "any" then some .any else if x = "sorted" then some .sorted else if x = "list" then some .list else if x = "tuple" then some .tuple else if x = "dict" then some .dict else none
def mthOf (x : Str) : Option Mth := if x = "get" then some .get else none
/-- a list of terms, each from its own -/
def each {α β : Type} (f : α → Option β) : List α → Option (List β)
  | [] => some []
  | x :: xs => match f x with
    | some y => match each f xs with
      | some ys => some (y :: ys)
      | none => none
    | none => none
def cT (N : List Str) : Nat → Expr → Option Tg
  | k + 1, .Name x p => match look N x with
    | some i => some (.nm i x p)
    | none => none
  | k + 1, .Tuple es n p => match each (cT N k) es with
    | some ts => some (.tp ts n p)
    | none => none
  | _, _ => none
def ownsOf (N : List Str) (sc : Scope) : List (Str × Nat) := sc.names.filterMap fun y => match y.2 with
  | .local => (look N y.1).map fun i => (y.1, i)
  | .cell => (look N y.1).map fun i => (y.1, i)
  | _ => none
section
variable (B : Tb)
section
variable (f : Expr → Option E)
def cA1 : Expr → Option (Option Pos × E)
  | .Starred e p => (f e).map fun e => (some p, e)
  | e => (f e).map fun e => (none, e)
def cO1 : Option Expr → Option (Option E)
  | none => some none
  | some e => (f e).map some
def cKV : List (Option Expr) → List Expr → Option (List (E × E))
  | [], [] => some []
  | some k :: ks, v :: vs => match f k, f v, cKV ks vs with
    | some a, some b, some r => some ((a, b) :: r)
    | _, _, _ => none
  | _, _ => none
def cI1 (it : Expr) : Option I :=
  match it with
  | .Call (.Name x p1) [a] [] p =>
    if x = "range" then (f a).map (.rg1 · p1 p) else if x = "enumerate" then (f a).map (.enu · p1 p) else (f it).map .ex
  | .Call (.Name x p1) [a, b] [] p =>
    if x = "range" then match f a, f b with
      | some a, some b => some (.rg2 a b p1 p)
      | _, _ => none
    else if x = "zip" then match f a, f b with
      | some a, some b => some (.zip a b p1 p)
      | _, _ => none
    else (f it).map .ex
  | _ => (f it).map .ex
def isTx (a : Expr) (y : Str) (p1 p2 p : Pos) : Option E := if y = "tuple" then (f a).map fun a => .isT a p1 p2 p else none
def cCall (x : Str) (as : List Expr) (p1 p : Pos) : Option E :=
  if x = "isinstance" then match as with
    | [a, .Name y p2] => isTx f a y p1 p2 p
    | _ => none
  else match each f as with
    | none => none
    | some es => match bltOf x with
      | some b => some (.blt b x es p1 p)
      | none => match look B.fs x with
        | some n => some (.call n x es p1 p)
        | none => none
def cIndex (o : Expr) (a : Expr) (p1 p : Pos) : Option E := match o, f a with
  | .Name x p0, some a => match look B.cs x with
    | some n => some (.cix n x a p0 p1 p)
    | none => none
  | _, _ => none
def cMth (o : Expr) (x : Str) (as : List Expr) (p1 p : Pos) : Option E :=
  if x = "index" then match as with
    | [a] => cIndex B f o a p1 p
    | _ => none
  else match mthOf x, f o, each f as with
    | some m, some o, some es => some (.mth m x o es p1 p)
    | _, _, _ => none
end
def cE : Nat → Expr → Option E
  | 0, _ => none
  | k + 1, .Name x p => match look B.N x with
    | some i => some (.var i x p)
    | none => match look B.cs x with
      | some n => some (.cst n x p)
      | none => none
  | _ + 1, .Constant c j p => match c with
    | .int n => some (.int n j p)
    | .bool b => some (.bl b j p)
    | .none => some (.non j p)
    | .str s => some (.str s j p)
    | _ => none
  | k + 1, .BinOp a o b p => match cE k a, cE k b with
    | some a, some b => some (.bin o a b p)
    | _, _ => none
  | k + 1, .UnaryOp o a p => match o, cE k a with
    | .USub, some a => some (.neg a p)
    | .Not, some a => some (.not a p)
    | _, _ => none
  | k + 1, .Compare a os bs p => match os, bs with
    | [o], [b] => match cE k a, cE k b with
      | some a, some b => some (.cmp o a b p)
      | _, _ => none
    | [o, o2], [b, c] => match cE k a, cE k b, cE k c with
      | some a, some b, some c => some (.chn o o2 a b c p)
      | _, _, _ => none
    | _, _ => none
  | k + 1, .BoolOp o es p => match o, each (cE k) es with
    | .And, some es => some (.and es p)
    | .Or, some es => some (.or es p)
    | _, _ => none
  | k + 1, .IfExp c a b p => match cE k c, cE k a, cE k b with
    | some c, some a, some b => some (.ife c a b p)
    | _, _, _ => none
  | k + 1, .Tuple es n p => (each (cA1 (cE k)) es).map fun as => .tup as n p
  | k + 1, .List es p => (each (cA1 (cE k)) es).map fun as => .lst as p
  | k + 1, .Dict ks vs p => match cKV (cE k) ks vs with
    | some [] => some (.dic0 false p)
    | some kvs => some (.dic kvs p)
    | none => none
  | k + 1, .Subscript a i p => match i with
    | .Slice lo hi st p2 => match st with
      | none => match cE k a, cO1 (cE k) lo, cO1 (cE k) hi with
        | some a, some lo, some hi => some (.slc a lo hi p2 p)
        | _, _, _ => none
      | some (.UnaryOp .USub (.Constant (.int 1) j p0) p1) => match lo, hi, cE k a with
        | none, none, some a => some (.rev a j p0 p1 p2 p)
        | _, _, _ => none
      | _ => none
    | _ => match cE k a, cE k i with
      | some a, some i => some (.sub a i p)
      | _, _ => none
  | k + 1, .Call g as kws p => match g, kws with
    | .Name x p1, [] => cCall B (cE k) x as p1 p
    | .Attribute o x p1, [] => cMth B (cE k) o x as p1 p
    | _, _ => none
  | k + 1, .ListComp elt gs sc p => match gs with
    | [⟨t, it, ifs, as⟩] => if as = 0 then match cE k elt, cT B.N k t, cI1 (cE k) it, each (cE k) ifs with
      | some elt, some t, some it, some ifs => some (.lc elt t it ifs sc (ownsOf B.N sc) p)
      | _, _, _, _ => none
      else none
    | _ => none
  | _ + 1, _ => none
def nmOf (x : Str) (p : Pos) : Option Nm := (look B.N x).map fun i => ⟨i, x, p, B.ow.contains x⟩
def nmE : Expr → Option Nm
  | .Name x p => nmOf B x p
  | _ => none
def cHE : Nat → Expr → Option HE
  | k + 1, .Attribute (.Name x p) y p' => if y = "at" then (look B.N x).map fun i => .at i x p p' else none
  | k + 1, .Constant c j p => match c with
    | .int n => some (.int n j p)
    | .bool b => some (.bl b j p)
    | .none => some (.non j p)
    | .str s => some (.str s j p)
    | _ => none
  | k + 1, .Tuple es n p => (each (cHE k) es).map fun es => .tup es n p
  | _, _ => none
def cHn : Option Str → Option (Option (Nat × Str))
  | none => some none
  | some x => (look B.N x).map fun i => some (i, x)
def cH1 : ExceptHandler → Option Hd
  | .ExceptHandler ty nm body hp => match ty, body with
    | some (.Name c np), [.Return (some e) rp] => match cHE B 5 e, cHn B nm with
      | some e, some n => some ⟨c, np, n, e, rp, hp⟩
      | _, _ => none
    | _, _ => none
/-- owned ones that a loop walks -/
def frzI (it : I) : List Nat :=
  let v : E → List Nat := fun e => match e with
    | .var i x _ => if B.ow.contains x then [i] else []
    | _ => []
  match it with
  | .ex e => v e
  | .enu e _ _ => v e
  | .zip a b _ _ => v a ++ v b
  | _ => []
def cAsg (k : Nat) (t : Expr) (e : Expr) (p : Pos) : Option S := match t with
  | .Name x np => match nmOf B x np, (match e with
      | .Dict [] [] p => some (.dic0 (B.tk.contains x) p)
      | e => cE B k e) with
    | some n, some e => some (.set n e p)
    | _, _ => none
  | .Subscript a i pt => match a with
    | .Name x np => match nmOf B x np, cE B k i, cE B k e with
      | some n, some i, some v => some (.put n i v pt p)
      | _, _, _ => none
    | _ => none
  | .Tuple ts kt pt => match e with
    | .Tuple es k2 pt2 => match each (nmE B) ts, each (cE B k) es with
      | some ns, some es => some (.par ns es kt pt k2 pt2 p)
      | _, _ => none
    | _ => match cT B.N k (.Tuple ts kt pt), cE B k e with
      | some t, some e => some (.unp t e p)
      | _, _ => none
  | _ => none
def cApp (k : Nat) (x : Str) (np p1 : Pos) (e : Expr) (p2 p : Pos) : Option S := match nmOf B x np, cE B k e with
  | some n, some e => some (.app n e p1 p2 p)
  | _, _ => none
def cExp (k : Nat) (e : Expr) (p : Pos) : Option S := (cE B k e).map (.exp · p)
def cSt (f : List Stmt → Option (List S)) (k : Nat) : Stmt → Option (List S)
  | .Assign ts e p => match ts with
    | [t] => (cAsg B k t e p).map fun s => [s]
    | _ => none
  | .Expr e p => match e with
    | .Call (.Attribute (.Name x np) y p1) [a] [] p2 => if y = "append" then (cApp B k x np p1 a p2 p).map fun s => [s] else (cExp B k e p).map fun s => [s]
    | _ => (cExp B k e p).map fun s => [s]
  | .Return e p => match e with
    | some e => (cE B k e).map fun e => [.ret e p]
    | none => none
  | .If c a b p => match cE B k c, f a, f b with
    | some c, some a, some b => some [.ifs c a b p]
    | _, _, _ => none
  | .For t it b els p => match els with
    | [] => match cT B.N k t, cI1 (cE B k) it, f b with
      | some t, some it, some b => some (match frzI B it with
        | [] => [.forr t it b p]
        | is => [.frz is, .forr t it b p])
      | _, _, _ => none
    | _ => none
  | .Raise e cause p => match cause, e with
    | none, some (.Call (.Name c p0) [a] [] p1) => (cE B k a).map fun a => [.rse c a p0 p1 p]
    | _, _ => none
  | .Try b hs els fin p => match els, fin with
    | [], [] => match f b, each (cH1 B) hs with
      | some b, some hs => some [.tri b hs p]
      | _, _ => none
    | _, _ => none
  | _ => none
def cSl (f : Stmt → Option (List S)) : List Stmt → Option (List S)
  | [] => some []
  | s :: ss => match f s, cSl f ss with
    | some a, some b => some (a ++ b)
    | _, _ => none
def cSs : Nat → List Stmt → Option (List S)
  | 0, _ => none
  | k + 1, ss => cSl (cSt B (cSs k) 40) ss
end

/-! ### .. is the text -/

section
variable {f : Expr → Option E} (hf : ∀ e e', f e = some e' → e'.py = e)
include hf
theorem each_pys : ∀ {xs : List Expr} {ys : List E}, each f xs = some ys → E.pys ys = xs
  | [], ys, h => by cases h; rfl
  | x :: xs, ys, h => by
    unfold each at h
    split at h
    · rename_i y hy
      split at h
      · rename_i ys hys
        cases h
        rw [E.pys, hf _ _ hy, each_pys hys]
      · cases h
    · cases h
theorem each_pya : ∀ {xs : List Expr} {ys : List (Option Pos × E)}, each (cA1 f) xs = some ys → E.pya ys = xs
  | [], ys, h => by cases h; rfl
  | x :: xs, ys, h => by
    unfold each at h
    split at h
    · rename_i y hy
      split at h
      · rename_i ys hys
        cases h
        have ih := each_pya hys
        unfold cA1 at hy
        split at hy
        · obtain ⟨e', h1, rfl⟩ := Option.map_eq_some_iff.mp hy
          rw [E.pya, hf _ _ h1, ih]
        · obtain ⟨e', h1, rfl⟩ := Option.map_eq_some_iff.mp hy
          rw [E.pya, hf _ _ h1, ih]
      · cases h
    · cases h
theorem cO1_ok {o : Option Expr} {o' : Option E} (h : cO1 f o = some o') : E.pyo o' = o := by
  cases o with
  | none => cases h; rfl
  | some e =>
    obtain ⟨e', h1, rfl⟩ := Option.map_eq_some_iff.mp h
    rw [E.pyo, hf _ _ h1]
theorem cKV_ok : ∀ {ks : List (Option Expr)} {vs : List Expr} {r : List (E × E)}, cKV f ks vs = some r → E.pyk r = ks ∧ E.pyv r = vs
  | [], [], r, h => by cases h; exact ⟨rfl, rfl⟩
  | some k :: ks, v :: vs, r, h => by
    unfold cKV at h
    split at h
    · rename_i h1 h2 h3
      cases h
      obtain ⟨a, b⟩ := cKV_ok h3
      rw [E.pyk, E.pyv, hf _ _ h1, hf _ _ h2, a, b]
      exact ⟨rfl, rfl⟩
    · cases h
  | [], _ :: _, r, h => by cases h
  | none :: _, _, r, h => by cases h
  | some _ :: _, [], r, h => by cases h
theorem cI1_ok {it : Expr} {i : I} (h : cI1 f it = some i) : i.py = it := by
  have ex : ∀ {e : Expr} {i : I}, (f e).map I.ex = some i → i.py = e := fun {e i} h => by
    obtain ⟨e', h1, rfl⟩ := Option.map_eq_some_iff.mp h
    exact hf _ _ h1
  unfold cI1 at h
  split at h
  · split at h
    · rename_i e
      obtain ⟨e', h1, rfl⟩ := Option.map_eq_some_iff.mp h
      rw [I.py, hf _ _ h1, e]
    · split at h
      · rename_i e
        obtain ⟨e', h1, rfl⟩ := Option.map_eq_some_iff.mp h
        rw [I.py, hf _ _ h1, e]
      · exact ex h
  · split at h
    · rename_i e
      split at h
      · rename_i h1 h2
        cases h
        rw [I.py, hf _ _ h1, hf _ _ h2, e]
      · cases h
    · split at h
      · rename_i e
        split at h
        · rename_i h1 h2
          cases h
          rw [I.py, hf _ _ h1, hf _ _ h2, e]
        · cases h
      · exact ex h
  · exact ex h
theorem cCall_ok {B : Tb} {x : Str} {as : List Expr} {p1 p : Pos} {e : E} (h : cCall B f x as p1 p = some e) : e.py = .Call (.Name x p1) as [] p := by
  unfold cCall at h
  split at h
  · rename_i ex
    split at h
    · unfold isTx at h
      split at h
      · rename_i ey
        obtain ⟨e', h1, rfl⟩ := Option.map_eq_some_iff.mp h
        rw [E.py, hf _ _ h1, ex, ey]
      · cases h
    · cases h
  · split at h
    · cases h
    · rename_i es he
      split at h
      · cases h
        rw [E.py, each_pys hf he]
      · split at h
        · cases h
          rw [E.py, each_pys hf he]
        · cases h
theorem cMth_ok {B : Tb} {o : Expr} {x : Str} {as : List Expr} {p1 p : Pos} {e : E} (h : cMth B f o x as p1 p = some e) : e.py = .Call (.Attribute o x p1) as [] p := by
  unfold cMth at h
  split at h
  · rename_i ex
    split at h
    · unfold cIndex at h
      split at h
      · rename_i ha
        split at h
        · cases h
          rw [E.py, hf _ _ ha, ex]
        · cases h
      · cases h
    · cases h
  · split at h
    · rename_i h1 h2 h3
      cases h
      rw [E.py, hf _ _ h2, each_pys hf h3]
    · cases h
end
theorem cT_ok {N : List Str} : ∀ (k : Nat) (e : Expr) (t : Tg), cT N k e = some t → t.py = e
  | 0, e, t, h => by cases e <;> cases h
  | k + 1, e, t, h => by
    unfold cT at h
    split at h
    · split at h
      · cases h; rfl
      · cases h
    · rename_i k0 es n p e0
      cases e0
      split at h
      · rename_i ts he
        cases h
        rw [Tg.py]
        congr 1
        have : ∀ {xs : List Expr} {ys : List Tg}, each (cT N k) xs = some ys → Tg.pys ys = xs := by
          intro xs
          induction xs with
          | nil => intro ys h; cases h; rfl
          | cons x xs ih =>
            intro ys h
            unfold each at h
            split at h
            · rename_i y hy
              split at h
              · rename_i ys hys
                cases h
                rw [Tg.pys, cT_ok k _ _ hy, ih hys]
              · cases h
            · cases h
        exact this he
      · cases h
    · cases h

theorem cE_ok {B : Tb} : ∀ (k : Nat) (e : Expr) (e' : E), cE B k e = some e' → e'.py = e
  | 0, e, e', h => by unfold cE at h; cases h
  | k + 1, e, e', h => by
    have ih := cE_ok (B := B) k
    cases e with
    | Name x p =>
      unfold cE at h
      split at h
      · cases h; rfl
      · split at h
        · cases h; rfl
        · cases h
    | Constant c j p =>
      unfold cE at h
      split at h <;> cases h <;> rfl
    | BinOp a o b p =>
      unfold cE at h
      split at h
      · rename_i h1 h2
        cases h
        rw [E.py, ih _ _ h1, ih _ _ h2]
      · cases h
    | UnaryOp o a p =>
      unfold cE at h
      split at h
      · rename_i h1
        cases h
        rw [E.py, ih _ _ h1]
      · rename_i h1
        cases h
        rw [E.py, ih _ _ h1]
      · cases h
    | Compare a os bs p =>
      unfold cE at h
      split at h
      · split at h
        · rename_i h1 h2
          cases h
          rw [E.py, ih _ _ h1, ih _ _ h2]
        · cases h
      · split at h
        · rename_i h1 h2 h3
          cases h
          rw [E.py, ih _ _ h1, ih _ _ h2, ih _ _ h3]
        · cases h
      · cases h
    | BoolOp o es p =>
      unfold cE at h
      split at h
      · rename_i h1
        cases h
        rw [E.py, each_pys ih h1]
      · rename_i h1
        cases h
        rw [E.py, each_pys ih h1]
      · cases h
    | IfExp c a b p =>
      unfold cE at h
      split at h
      · rename_i h1 h2 h3
        cases h
        rw [E.py, ih _ _ h1, ih _ _ h2, ih _ _ h3]
      · cases h
    | Tuple es n p =>
      unfold cE at h
      obtain ⟨as, h1, rfl⟩ := Option.map_eq_some_iff.mp h
      rw [E.py, each_pya ih h1]
    | List es p =>
      unfold cE at h
      obtain ⟨as, h1, rfl⟩ := Option.map_eq_some_iff.mp h
      rw [E.py, each_pya ih h1]
    | Dict ks vs p =>
      unfold cE at h
      split at h
      · rename_i h1
        cases h
        obtain ⟨a, b⟩ := cKV_ok ih h1
        rw [E.py, ← a, ← b]
        rfl
      · rename_i h1
        cases h
        obtain ⟨a, b⟩ := cKV_ok ih h1
        rw [E.py, a, b]
      · cases h
    | Subscript a i p =>
      unfold cE at h
      split at h
      · split at h
        · split at h
          · rename_i h1 h2 h3
            cases h
            rw [E.py, ih _ _ h1, cO1_ok ih h2, cO1_ok ih h3]
          · cases h
        · split at h
          · rename_i h1
            cases h
            rw [E.py, ih _ _ h1]
          · cases h
        · cases h
      · split at h
        · rename_i h1 h2
          cases h
          rw [E.py, ih _ _ h1, ih _ _ h2]
        · cases h
    | Call g as kws p =>
      unfold cE at h
      split at h
      · exact cCall_ok ih h
      · exact cMth_ok ih h
      · cases h
    | ListComp elt gs sc p =>
      unfold cE at h
      split at h
      · split at h
        · rename_i e0
          subst e0
          split at h
          · rename_i h1 h2 h3 h4
            cases h
            rw [E.py, ih _ _ h1, cT_ok _ _ _ h2, cI1_ok ih h3, each_pys ih h4]
          · cases h
        · cases h
      · cases h
    | _ => cases h
theorem nmOf_ok {B : Tb} {x : Str} {p : Pos} {n : Nm} (h : nmOf B x p = some n) : nmT n = .Name x p := by
  obtain ⟨i, _, rfl⟩ := Option.map_eq_some_iff.mp h
  rfl
theorem nmE_ok {B : Tb} {e : Expr} {n : Nm} (h : nmE B e = some n) : nmT n = e := by
  cases e with
  | Name x p => exact nmOf_ok h
  | _ => cases h
theorem each_nm {B : Tb} : ∀ {xs : List Expr} {ys : List Nm}, each (nmE B) xs = some ys → ys.map nmT = xs
  | [], ys, h => by cases h; rfl
  | x :: xs, ys, h => by
    unfold each at h
    split at h
    · rename_i y hy
      split at h
      · rename_i ys hys
        cases h
        rw [List.map_cons, nmE_ok hy, each_nm hys]
      · cases h
    · cases h
theorem cHE_ok {B : Tb} : ∀ (k : Nat) (e : Expr) (e' : HE), cHE B k e = some e' → e'.py = e
  | 0, e, e', h => by unfold cHE at h; cases h
  | k + 1, e, e', h => by
    cases e with
    | Attribute a y p' =>
      cases a with
      | Name x p =>
        unfold cHE at h
        split at h
        · rename_i ey
          subst ey
          obtain ⟨i, _, rfl⟩ := Option.map_eq_some_iff.mp h
          rfl
        · cases h
      | _ => cases h
    | Constant c j p =>
      unfold cHE at h
      split at h <;> cases h <;> rfl
    | Tuple es n p =>
      unfold cHE at h
      obtain ⟨as, h1, rfl⟩ := Option.map_eq_some_iff.mp h
      rw [HE.py]
      congr 1
      have : ∀ {xs : List Expr} {ys : List HE}, each (cHE B k) xs = some ys → HE.pys ys = xs := by
        intro xs
        induction xs with
        | nil => intro ys h; cases h; rfl
        | cons x xs ih =>
          intro ys h
          unfold each at h
          split at h
          · rename_i y hy
            split at h
            · rename_i ys hys
              cases h
              rw [HE.pys, cHE_ok k _ _ hy, ih hys]
            · cases h
          · cases h
      exact this h1
    | _ => cases h
theorem cH1_ok {B : Tb} {x : ExceptHandler} {h : Hd} (e : cH1 B x = some h) : h.py = x := by
  obtain ⟨ty, nm, body, hp⟩ := x
  dsimp only [cH1] at e
  split at e
  · split at e
    · rename_i h1 h2
      cases e
      unfold Hd.py
      rw [cHE_ok _ _ _ h1]
      unfold cHn at h2
      split at h2
      · cases h2; rfl
      · obtain ⟨i, _, rfl⟩ := Option.map_eq_some_iff.mp h2
        rfl
    · cases e
  · cases e
theorem each_hd {B : Tb} : ∀ {xs : List ExceptHandler} {ys : List Hd}, each (cH1 B) xs = some ys → ys.map Hd.py = xs
  | [], ys, h => by cases h; rfl
  | x :: xs, ys, h => by
    unfold each at h
    split at h
    · rename_i y hy
      split at h
      · rename_i ys hys
        cases h
        rw [List.map_cons, cH1_ok hy, each_hd hys]
      · cases h
    · cases h
theorem cAsg_ok {B : Tb} {k : Nat} {t e : Expr} {p : Pos} {s : S} (h : cAsg B k t e p = some s) : s.py = [.Assign [t] e p] := by
  unfold cAsg at h
  split at h
  · split at h
    · rename_i x np _ _ n e' h1 h2
      cases h
      have h3 := nmOf_ok h1
      unfold nmT at h3
      rw [S.py, h3]
      split at h2
      · cases h2; rfl
      · rw [cE_ok _ _ _ h2]
    · cases h
  · split at h
    · split at h
      · rename_i h1 h2 h3
        cases h
        have h4 := nmOf_ok h1
        unfold nmT at h4
        rw [S.py, h4, cE_ok _ _ _ h2, cE_ok _ _ _ h3]
      · cases h
    · cases h
  · split at h
    · split at h
      · rename_i h1 h2
        cases h
        rw [S.py, each_nm h1, each_pys (cE_ok k) h2]
      · cases h
    · split at h
      · rename_i h1 h2
        cases h
        rw [S.py, cT_ok _ _ _ h1, cE_ok _ _ _ h2]
      · cases h
  · cases h
theorem cExp_ok {B : Tb} {k : Nat} {e : Expr} {p : Pos} {s : S} (h : cExp B k e p = some s) : s.py = [.Expr e p] := by
  obtain ⟨e', h1, rfl⟩ := Option.map_eq_some_iff.mp h
  rw [S.py, cE_ok _ _ _ h1]
theorem sing_ok {o : Option S} {ss : List S} {q : List Stmt} (h : o.map (fun s => [s]) = some ss) (k : ∀ s, o = some s → s.py = q) : S.pys ss = q := by
  obtain ⟨s, h1, rfl⟩ := Option.map_eq_some_iff.mp h
  rw [S.pys, S.pys, List.append_nil, k s h1]
theorem cSt_ok {B : Tb} {f : List Stmt → Option (List S)} (hf : ∀ a b, f a = some b → S.pys b = a) {k : Nat} {s : Stmt} {ss : List S} (h : cSt B f k s = some ss) : S.pys ss = [s] := by
  cases s with
  | Assign ts e p =>
    dsimp only [cSt] at h
    split at h
    · exact sing_ok h fun s => cAsg_ok
    · cases h
  | Expr e p =>
    dsimp only [cSt] at h
    split at h
    · split at h
      · rename_i ey
        subst ey
        refine sing_ok h fun s h => ?_
        unfold cApp at h
        split at h
        · rename_i h1 h2
          cases h
          have h4 := nmOf_ok h1
          unfold nmT at h4
          rw [S.py, h4, cE_ok _ _ _ h2]
        · cases h
      · exact sing_ok h fun s => cExp_ok
    · exact sing_ok h fun s => cExp_ok
  | Return e p =>
    dsimp only [cSt] at h
    split at h
    · obtain ⟨e', h1, rfl⟩ := Option.map_eq_some_iff.mp h
      rw [S.pys, S.pys, S.py, cE_ok _ _ _ h1]; rfl
    · cases h
  | If c a b p =>
    dsimp only [cSt] at h
    split at h
    · rename_i h1 h2 h3
      cases h
      rw [S.pys, S.pys, S.py, cE_ok _ _ _ h1, hf _ _ h2, hf _ _ h3]; rfl
    · cases h
  | For t it b els p =>
    dsimp only [cSt] at h
    split at h
    · split at h
      · rename_i h1 h2 h3
        cases h
        have q : S.pys [.forr ‹Tg› ‹I› ‹List S› p] = [.For t it b [] p] := by
          rw [S.pys, S.pys, S.py, cT_ok _ _ _ h1, cI1_ok (cE_ok k) h2, hf _ _ h3]; rfl
        split
        · exact q
        · rw [S.pys, q, S.py]; rfl
      · cases h
    · cases h
  | Raise e cause p =>
    dsimp only [cSt] at h
    split at h
    · obtain ⟨e', h1, rfl⟩ := Option.map_eq_some_iff.mp h
      rw [S.pys, S.pys, S.py, cE_ok _ _ _ h1]; rfl
    · cases h
  | Try b hs els fin p =>
    dsimp only [cSt] at h
    split at h
    · split at h
      · rename_i h1 h2
        cases h
        rw [S.pys, S.pys, S.py, hf _ _ h1, each_hd h2]; rfl
      · cases h
    · cases h
  | _ => cases h
theorem pys_app : ∀ (a b : List S), S.pys (a ++ b) = S.pys a ++ S.pys b
  | [], b => rfl
  | s :: a, b => by rw [List.cons_append, S.pys, S.pys, pys_app a b, List.append_assoc]
theorem cSl_ok {f : Stmt → Option (List S)} (hf : ∀ a b, f a = some b → S.pys b = [a]) : ∀ {ss : List Stmt} {bs : List S}, cSl f ss = some bs → S.pys bs = ss
  | [], bs, h => by cases h; rfl
  | s :: ss, bs, h => by
    unfold cSl at h
    split at h
    · rename_i h1 h2
      cases h
      rw [pys_app, hf _ _ h1, cSl_ok hf h2]; rfl
    · cases h
theorem cSs_ok {B : Tb} : ∀ (k : Nat) (ss : List Stmt) (bs : List S), cSs B k ss = some bs → S.pys bs = ss
  | 0, ss, bs, h => by cases h
  | k + 1, ss, bs, h => cSl_ok (fun a b h => cSt_ok (cSs_ok k) h) h
end Ev
set_option Elab.async false
set_option linter.all false
set_option maxRecDepth 100000
set_option maxHeartbeats 1000000
/-! Ev25: terms that mean the same, names and places aside. -/
namespace Ev
open PySem PySem.Spec PyProof.Rows L2
mutual
def Tg.sim : Tg → Tg → Bool
  | .nm i _ _, u => match u with
    | .nm j _ _ => i == j
    | _ => false
  | .tp ts _ _, u => match u with
    | .tp us _ _ => Tg.sims ts us
    | _ => false
termination_by structural e => e
def Tg.sims : List Tg → List Tg → Bool
  | [], us => match us with
    | [] => true
    | _ => false
  | t :: ts, us => match us with
    | u :: us => t.sim u && Tg.sims ts us
    | _ => false
termination_by structural e => e
end
def ixs (own : List (Str × Nat)) : List Nat := own.map (·.2)
mutual
def E.sim : E → E → Bool
  | .var i _ _, u => match u with
    | .var j _ _ => i == j
    | _ => false
  | .cst i _ _, u => match u with
    | .cst j _ _ => i == j
    | _ => false
  | .int i _ _, u => match u with
    | .int j _ _ => i == j
    | _ => false
  | .bl i _ _, u => match u with
    | .bl j _ _ => i == j
    | _ => false
  | .non _ _, u => match u with
    | .non _ _ => true
    | _ => false
  | .str s _ _, u => match u with
    | .str t _ _ => decide (s = t)
    | _ => false
  | .bin o a b _, u => match u with
    | .bin o' a' b' _ => decide (o = o') && a.sim a' && b.sim b'
    | _ => false
  | .neg a _, u => match u with
    | .neg a' _ => a.sim a'
    | _ => false
  | .not a _, u => match u with
    | .not a' _ => a.sim a'
    | _ => false
  | .cmp o a b _, u => match u with
    | .cmp o' a' b' _ => decide (o = o') && a.sim a' && b.sim b'
    | _ => false
  | .chn o1 o2 a b c _, u => match u with
    | .chn p1 p2 a' b' c' _ => decide (o1 = p1) && decide (o2 = p2) && a.sim a' && b.sim b' && c.sim c'
    | _ => false
  | .and es _, u => match u with
    | .and us _ => E.sims es us
    | _ => false
  | .or es _, u => match u with
    | .or us _ => E.sims es us
    | _ => false
  | .ife c a b _, u => match u with
    | .ife c' a' b' _ => c.sim c' && a.sim a' && b.sim b'
    | _ => false
  | .tup as _ _, u => match u with
    | .tup us _ _ => E.sima as us
    | _ => false
  | .lst as _, u => match u with
    | .lst us _ => E.sima as us
    | _ => false
  | .dic kvs _, u => match u with
    | .dic us _ => E.simk kvs us
    | _ => false
  | .dic0 t _, u => match u with
    | .dic0 t' _ => t == t'
    | _ => false
  | .sub a i _, u => match u with
    | .sub a' i' _ => a.sim a' && i.sim i'
    | _ => false
  | .slc a lo hi _ _, u => match u with
    | .slc a' lo' hi' _ _ => a.sim a' && E.simo lo lo' && E.simo hi hi'
    | _ => false
  | .rev a _ _ _ _ _, u => match u with
    | .rev a' _ _ _ _ _ => a.sim a'
    | _ => false
  | .call f _ as _ _, u => match u with
    | .call g _ us _ _ => f == g && E.sims as us
    | _ => false
  | .blt b _ as _ _, u => match u with
    | .blt b' _ us _ _ => decide (b = b') && E.sims as us
    | _ => false
  | .isT a _ _ _, u => match u with
    | .isT a' _ _ _ => a.sim a'
    | _ => false
  | .cix n _ a _ _ _, u => match u with
    | .cix m _ a' _ _ _ => n == m && a.sim a'
    | _ => false
  | .mth m _ o as _ _, u => match u with
    | .mth m' _ o' us _ _ => decide (m = m') && o.sim o' && E.sims as us
    | _ => false
  | .lsI it _ _ _, u => match u with
    | .lsI it' _ _ _ => it.sim it'
    | _ => false
  | .lc elt tg it ifs _ own _, u => match u with
    | .lc elt' tg' it' ifs' _ own' _ => elt.sim elt' && tg.sim tg' && it.sim it' && E.sims ifs ifs' && decide (ixs own = ixs own')
    | _ => false
  | .dc kx vx _ tg it ifs _ own _, u => match u with
    | .dc kx' vx' _ tg' it' ifs' _ own' _ => kx.sim kx' && vx.sim vx' && tg.sim tg' && it.sim it' && E.sims ifs ifs' && decide (ixs own = ixs own')
    | _ => false
termination_by structural e => e
def E.sims : List E → List E → Bool
  | [], us => match us with
    | [] => true
    | _ => false
  | e :: es, us => match us with
    | u :: us => e.sim u && E.sims es us
    | _ => false
termination_by structural e => e
def E.sima : List (Option Pos × E) → List (Option Pos × E) → Bool
  | [], us => match us with
    | [] => true
    | _ => false
  | (o, e) :: es, us => match us with
    | (o', u) :: us => o.isSome == o'.isSome && e.sim u && E.sima es us
    | _ => false
termination_by structural e => e
def E.simk : List (E × E) → List (E × E) → Bool
  | [], us => match us with
    | [] => true
    | _ => false
  | (k, v) :: es, us => match us with
    | (k', v') :: us => k.sim k' && v.sim v' && E.simk es us
    | _ => false
termination_by structural e => e
def E.simo : Option E → Option E → Bool
  | none, u => match u with
    | none => true
    | _ => false
  | some e, u => match u with
    | some e' => e.sim e'
    | _ => false
termination_by structural e => e
def I.sim : I → I → Bool
  | .ex e, u => match u with
    | .ex e' => e.sim e'
    | _ => false
  | .rg1 e _ _, u => match u with
    | .rg1 e' _ _ => e.sim e'
    | _ => false
  | .rg2 a b _ _, u => match u with
    | .rg2 a' b' _ _ => a.sim a' && b.sim b'
    | _ => false
  | .enu e _ _, u => match u with
    | .enu e' _ _ => e.sim e'
    | _ => false
  | .zip a b _ _, u => match u with
    | .zip a' b' _ _ => a.sim a' && b.sim b'
    | _ => false
termination_by structural e => e
end
mutual
def HE.sim : HE → HE → Bool
  | .at _ _ _ _, u => match u with
    | .at _ _ _ _ => true
    | _ => false
  | .non _ _, u => match u with
    | .non _ _ => true
    | _ => false
  | .bl b _ _, u => match u with
    | .bl b' _ _ => b == b'
    | _ => false
  | .int b _ _, u => match u with
    | .int b' _ _ => b == b'
    | _ => false
  | .str b _ _, u => match u with
    | .str b' _ _ => decide (b = b')
    | _ => false
  | .tup es _ _, u => match u with
    | .tup us _ _ => HE.sims es us
    | _ => false
termination_by structural e => e
def HE.sims : List HE → List HE → Bool
  | [], us => match us with
    | [] => true
    | _ => false
  | e :: es, us => match us with
    | u :: us => e.sim u && HE.sims es us
    | _ => false
termination_by structural e => e
end
def Hd.sims : List Hd → List Hd → Bool
  | [], us => match us with
    | [] => true
    | _ => false
  | h :: hs, us => match us with
    | u :: us => decide (h.c = u.c) && h.e.sim u.e && Hd.sims hs us
    | _ => false
def Nm.sim (n m : Nm) : Bool := n.i == m.i && n.own == m.own
def Nm.sims : List Nm → List Nm → Bool
  | [], us => match us with
    | [] => true
    | _ => false
  | h :: hs, us => match us with
    | u :: us => h.sim u && Nm.sims hs us
    | _ => false
mutual
def S.sim : S → S → Bool
  | .set n e _, u => match u with
    | .set n' e' _ => n.sim n' && e.sim e'
    | _ => false
  | .unp n e _, u => match u with
    | .unp n' e' _ => n.sim n' && e.sim e'
    | _ => false
  | .par n e _ _ _ _ _, u => match u with
    | .par n' e' _ _ _ _ _ => Nm.sims n n' && E.sims e e'
    | _ => false
  | .put n i v _ _, u => match u with
    | .put n' i' v' _ _ => n.sim n' && i.sim i' && v.sim v'
    | _ => false
  | .app n e _ _ _, u => match u with
    | .app n' e' _ _ _ => n.sim n' && e.sim e'
    | _ => false
  | .exp e _, u => match u with
    | .exp e' _ => e.sim e'
    | _ => false
  | .ret e _, u => match u with
    | .ret e' _ => e.sim e'
    | _ => false
  | .ifs c a b _, u => match u with
    | .ifs c' a' b' _ => c.sim c' && S.sims a a' && S.sims b b'
    | _ => false
  | .forr c a b _, u => match u with
    | .forr c' a' b' _ => c.sim c' && a.sim a' && S.sims b b'
    | _ => false
  | .rse c e _ _ _, u => match u with
    | .rse c' e' _ _ _ => decide (c = c') && e.sim e'
    | _ => false
  | .tri b hs _, u => match u with
    | .tri b' hs' _ => S.sims b b' && Hd.sims hs hs'
    | _ => false
  | .frz is, u => match u with
    | .frz js => is == js
    | _ => false
termination_by structural e => e
def S.sims : List S → List S → Bool
  | [], us => match us with
    | [] => true
    | _ => false
  | e :: es, us => match us with
    | u :: us => e.sim u && S.sims es us
    | _ => false
termination_by structural e => e
end
mutual
theorem Tg.sim_ok : ∀ (t u : Tg), t.sim u = true → t.bind = u.bind
  | .nm i _ _, u, h => by
    cases u with
    | nm j _ _ =>
      have h : (i == j) = true := h
      rw [beq_iff_eq] at h
      subst h; rfl
    | _ => cases h
  | .tp ts _ _, u, h => by
    cases u with
    | tp us _ _ =>
      have q := Tg.sims_ok ts us h
      funext d k ρ
      cases d <;> first
        | rfl
        | (show Tg.binds ts _ _ _ = Tg.binds us _ _ _
           rw [q])
    | _ => cases h
theorem Tg.sims_ok : ∀ (t u : List Tg), Tg.sims t u = true → Tg.binds t = Tg.binds u
  | [], u, h => by
    cases u with
    | nil => rfl
    | cons _ _ => cases h
  | t :: ts, u, h => by
    cases u with
    | nil => cases h
    | cons u us =>
      have h : (t.sim u && Tg.sims ts us) = true := h
      rw [Bool.and_eq_true] at h
      funext d k ρ
      cases d with
      | nil => rfl
      | cons d ds =>
        unfold Tg.binds
        rw [Tg.sim_ok t u h.1, Tg.sims_ok ts us h.2]
end
section
variable (C : Nat → D) (Γ : Fns)
mutual
theorem E.sim_ok : ∀ (e u : E), e.sim u = true → evE C Γ e = evE C Γ u
  | .var i _ _, u, h => by
    cases u with
    | var j _ _ =>
      have h : (i == j) = true := h
      simp only [Bool.and_eq_true, decide_eq_true_eq, beq_iff_eq] at h
      obtain rfl := h
      funext ρ
      rfl
    | _ => cases h
  | .cst i _ _, u, h => by
    cases u with
    | cst j _ _ =>
      have h : (i == j) = true := h
      simp only [Bool.and_eq_true, decide_eq_true_eq, beq_iff_eq] at h
      obtain rfl := h
      funext ρ
      rfl
    | _ => cases h
  | .int i _ _, u, h => by
    cases u with
    | int j _ _ =>
      have h : (i == j) = true := h
      simp only [Bool.and_eq_true, decide_eq_true_eq, beq_iff_eq] at h
      obtain rfl := h
      funext ρ
      rfl
    | _ => cases h
  | .bl i _ _, u, h => by
    cases u with
    | bl j _ _ =>
      have h : (i == j) = true := h
      simp only [Bool.and_eq_true, decide_eq_true_eq, beq_iff_eq] at h
      obtain rfl := h
      funext ρ
      rfl
    | _ => cases h
  | .non _ _, u, h => by
    cases u with
    | non _ _ => rfl
    | _ => cases h
  | .str i _ _, u, h => by
    cases u with
    | str j _ _ =>
      have h : (decide (i = j)) = true := h
      simp only [Bool.and_eq_true, decide_eq_true_eq, beq_iff_eq] at h
      obtain rfl := h
      funext ρ
      rfl
    | _ => cases h
  | .bin o a b _, u, h => by
    cases u with
    | bin o' a' b' _ =>
      have h : (decide (o = o') && a.sim a' && b.sim b') = true := h
      simp only [Bool.and_eq_true, decide_eq_true_eq, beq_iff_eq] at h
      obtain ⟨⟨rfl, h1⟩, h2⟩ := h
      funext ρ
      simp only [evE, E.sim_ok a a' h1, E.sim_ok b b' h2]
    | _ => cases h
  | .neg a _, u, h => by
    cases u with
    | neg a' _ =>
      have h : (a.sim a') = true := h
      funext ρ
      simp only [evE, E.sim_ok a a' h]
    | _ => cases h
  | .not a _, u, h => by
    cases u with
    | not a' _ =>
      have h : (a.sim a') = true := h
      funext ρ
      simp only [evE, E.sim_ok a a' h]
    | _ => cases h
  | .cmp o a b _, u, h => by
    cases u with
    | cmp o' a' b' _ =>
      have h : (decide (o = o') && a.sim a' && b.sim b') = true := h
      simp only [Bool.and_eq_true, decide_eq_true_eq, beq_iff_eq] at h
      obtain ⟨⟨rfl, h1⟩, h2⟩ := h
      funext ρ
      simp only [evE, E.sim_ok a a' h1, E.sim_ok b b' h2]
    | _ => cases h
  | .chn o1 o2 a b c _, u, h => by
    cases u with
    | chn p1 p2 a' b' c' _ =>
      have h : (decide (o1 = p1) && decide (o2 = p2) && a.sim a' && b.sim b' && c.sim c') = true := h
      simp only [Bool.and_eq_true, decide_eq_true_eq, beq_iff_eq] at h
      obtain ⟨⟨⟨⟨rfl, rfl⟩, h1⟩, h2⟩, h3⟩ := h
      funext ρ
      simp only [evE, E.sim_ok a a' h1, E.sim_ok b b' h2, E.sim_ok c c' h3]
    | _ => cases h
  | .and es _, u, h => by
    cases u with
    | and us _ =>
      have h : (E.sims es us) = true := h
      funext ρ
      simp only [evE, (E.sims_ok es us h).2.1]
    | _ => cases h
  | .or es _, u, h => by
    cases u with
    | or us _ =>
      have h : (E.sims es us) = true := h
      funext ρ
      simp only [evE, (E.sims_ok es us h).2.2.1]
    | _ => cases h
  | .ife c a b _, u, h => by
    cases u with
    | ife c' a' b' _ =>
      have h : (c.sim c' && a.sim a' && b.sim b') = true := h
      simp only [Bool.and_eq_true, decide_eq_true_eq, beq_iff_eq] at h
      obtain ⟨⟨h1, h2⟩, h3⟩ := h
      funext ρ
      simp only [evE, E.sim_ok c c' h1, E.sim_ok a a' h2, E.sim_ok b b' h3]
    | _ => cases h
  | .tup as _ _, u, h => by
    cases u with
    | tup us _ _ =>
      have h : (E.sima as us) = true := h
      funext ρ
      simp only [evE, E.sima_ok as us h]
    | _ => cases h
  | .lst as _, u, h => by
    cases u with
    | lst us _ =>
      have h : (E.sima as us) = true := h
      funext ρ
      simp only [evE, E.sima_ok as us h]
    | _ => cases h
  | .dic as _, u, h => by
    cases u with
    | dic us _ =>
      have h : (E.simk as us) = true := h
      funext ρ
      simp only [evE, E.simk_ok as us h]
    | _ => cases h
  | .dic0 i _, u, h => by
    cases u with
    | dic0 j _ =>
      have h : (i == j) = true := h
      simp only [Bool.and_eq_true, decide_eq_true_eq, beq_iff_eq] at h
      obtain rfl := h
      funext ρ
      rfl
    | _ => cases h
  | .sub a i _, u, h => by
    cases u with
    | sub a' i' _ =>
      have h : (a.sim a' && i.sim i') = true := h
      simp only [Bool.and_eq_true, decide_eq_true_eq, beq_iff_eq] at h
      obtain ⟨h1, h2⟩ := h
      funext ρ
      simp only [evE, E.sim_ok a a' h1, E.sim_ok i i' h2]
    | _ => cases h
  | .slc a lo hi _ _, u, h => by
    cases u with
    | slc a' lo' hi' _ _ =>
      have h : (a.sim a' && E.simo lo lo' && E.simo hi hi') = true := h
      simp only [Bool.and_eq_true, decide_eq_true_eq, beq_iff_eq] at h
      obtain ⟨⟨h1, h2⟩, h3⟩ := h
      funext ρ
      simp only [evE, E.sim_ok a a' h1, E.simo_ok lo lo' h2, E.simo_ok hi hi' h3]
    | _ => cases h
  | .rev a _ _ _ _ _, u, h => by
    cases u with
    | rev a' _ _ _ _ _ =>
      have h : (a.sim a') = true := h
      funext ρ
      simp only [evE, E.sim_ok a a' h]
    | _ => cases h
  | .call f _ as _ _, u, h => by
    cases u with
    | call g _ us _ _ =>
      have h : (f == g && E.sims as us) = true := h
      simp only [Bool.and_eq_true, decide_eq_true_eq, beq_iff_eq] at h
      obtain ⟨rfl, h1⟩ := h
      funext ρ
      simp only [evE, (E.sims_ok as us h1).1]
    | _ => cases h
  | .blt f _ as _ _, u, h => by
    cases u with
    | blt g _ us _ _ =>
      have h : (decide (f = g) && E.sims as us) = true := h
      simp only [Bool.and_eq_true, decide_eq_true_eq, beq_iff_eq] at h
      obtain ⟨rfl, h1⟩ := h
      funext ρ
      simp only [evE, (E.sims_ok as us h1).1]
    | _ => cases h
  | .isT a _ _ _, u, h => by
    cases u with
    | isT a' _ _ _ =>
      have h : (a.sim a') = true := h
      funext ρ
      simp only [evE, E.sim_ok a a' h]
    | _ => cases h
  | .cix n _ a _ _ _, u, h => by
    cases u with
    | cix m _ a' _ _ _ =>
      have h : (n == m && a.sim a') = true := h
      simp only [Bool.and_eq_true, decide_eq_true_eq, beq_iff_eq] at h
      obtain ⟨rfl, h1⟩ := h
      funext ρ
      simp only [evE, E.sim_ok a a' h1]
    | _ => cases h
  | .mth m _ o as _ _, u, h => by
    cases u with
    | mth m' _ o' us _ _ =>
      have h : (decide (m = m') && o.sim o' && E.sims as us) = true := h
      simp only [Bool.and_eq_true, decide_eq_true_eq, beq_iff_eq] at h
      obtain ⟨⟨rfl, h1⟩, h2⟩ := h
      funext ρ
      simp only [evE, E.sim_ok o o' h1, (E.sims_ok as us h2).1]
    | _ => cases h
  | .lsI a _ _ _, u, h => by
    cases u with
    | lsI a' _ _ _ =>
      have h : (a.sim a') = true := h
      funext ρ
      simp only [evE, I.sim_ok a a' h]
    | _ => cases h
  | .lc elt tg it ifs _ own _, u, h => by
    cases u with
    | lc elt' tg' it' ifs' _ own' _ =>
      have h : (elt.sim elt' && tg.sim tg' && it.sim it' && E.sims ifs ifs' && decide (ixs own = ixs own')) = true := h
      simp only [Bool.and_eq_true, decide_eq_true_eq, beq_iff_eq] at h
      obtain ⟨⟨⟨⟨h1, h2⟩, h3⟩, h4⟩, h5⟩ := h
      funext ρ
      simp only [evE, E.sim_ok elt elt' h1, Tg.sim_ok tg tg' h2, I.sim_ok it it' h3, (E.sims_ok ifs ifs' h4).2.2.2, show own.map (·.2) = own'.map (·.2) from h5]
    | _ => cases h
  | .dc kx vx _ tg it ifs _ own _, u, h => by
    cases u with
    | dc kx' vx' _ tg' it' ifs' _ own' _ =>
      have h : (kx.sim kx' && vx.sim vx' && tg.sim tg' && it.sim it' && E.sims ifs ifs' && decide (ixs own = ixs own')) = true := h
      simp only [Bool.and_eq_true, decide_eq_true_eq, beq_iff_eq] at h
      obtain ⟨⟨⟨⟨⟨h0, h1⟩, h2⟩, h3⟩, h4⟩, h5⟩ := h
      funext ρ
      simp only [evE, E.sim_ok kx kx' h0, E.sim_ok vx vx' h1, Tg.sim_ok tg tg' h2, I.sim_ok it it' h3, (E.sims_ok ifs ifs' h4).2.2.2, show own.map (·.2) = own'.map (·.2) from h5]
    | _ => cases h
theorem E.sims_ok : ∀ (e u : List E), E.sims e u = true → evEs C Γ e = evEs C Γ u ∧ evAnd C Γ e = evAnd C Γ u ∧ evOr C Γ e = evOr C Γ u ∧ evIfs C Γ e = evIfs C Γ u
  | [], u, h => by
    cases u with
    | nil => exact ⟨rfl, rfl, rfl, rfl⟩
    | cons _ _ => cases h
  | e :: es, u, h => by
    cases u with
    | nil => cases h
    | cons u us =>
      have h : (e.sim u && E.sims es us) = true := h
      rw [Bool.and_eq_true] at h
      have q := E.sim_ok e u h.1
      obtain ⟨q1, q2, q3, q4⟩ := E.sims_ok es us h.2
      refine ⟨?_, ?_, ?_, ?_⟩
      · funext ρ
        simp only [evEs, q, q1]
      · cases es with
        | nil => cases us with
          | nil => funext ρ; simp only [evAnd, q]
          | cons _ _ => exact absurd h.2 (by intro z; cases z)
        | cons e2 es2 => cases us with
          | nil => exact absurd h.2 (by intro z; cases z)
          | cons u2 us2 => funext ρ; simp only [evAnd, q, q2]
      · cases es with
        | nil => cases us with
          | nil => funext ρ; simp only [evOr, q]
          | cons _ _ => exact absurd h.2 (by intro z; cases z)
        | cons e2 es2 => cases us with
          | nil => exact absurd h.2 (by intro z; cases z)
          | cons u2 us2 => funext ρ; simp only [evOr, q, q3]
      · cases es with
        | nil => cases us with
          | nil => funext ρ; simp only [evIfs, q]
          | cons _ _ => exact absurd h.2 (by intro z; cases z)
        | cons e2 es2 => cases us with
          | nil => exact absurd h.2 (by intro z; cases z)
          | cons u2 us2 => funext ρ; rfl
theorem E.sima_ok : ∀ (e u : List (Option Pos × E)), E.sima e u = true → evAs C Γ e = evAs C Γ u
  | [], u, h => by
    cases u with
    | nil => rfl
    | cons _ _ => cases h
  | (o, e) :: es, u, h => by
    cases u with
    | nil => cases h
    | cons u us =>
      obtain ⟨o', u⟩ := u
      have h : (o.isSome == o'.isSome && e.sim u && E.sima es us) = true := h
      simp only [Bool.and_eq_true, beq_iff_eq] at h
      have q := E.sim_ok e u h.1.2
      have q1 := E.sima_ok es us h.2
      funext ρ
      cases o with
      | none => cases o' with
        | none => simp only [evAs, q, q1]
        | some _ => cases h.1.1
      | some _ => cases o' with
        | some _ => simp only [evAs, q, q1]
        | none => cases h.1.1
theorem E.simk_ok : ∀ (e u : List (E × E)), E.simk e u = true → evKs C Γ e = evKs C Γ u
  | [], u, h => by
    cases u with
    | nil => rfl
    | cons _ _ => cases h
  | (o, e) :: es, u, h => by
    cases u with
    | nil => cases h
    | cons u us =>
      obtain ⟨o', u⟩ := u
      have h : (o.sim o' && e.sim u && E.simk es us) = true := h
      simp only [Bool.and_eq_true] at h
      have q := E.sim_ok e u h.1.2
      have q0 := E.sim_ok o o' h.1.1
      have q1 := E.simk_ok es us h.2
      funext ρ
      simp only [evKs, q, q0, q1]
theorem E.simo_ok : ∀ (e u : Option E), E.simo e u = true → evO C Γ e = evO C Γ u
  | none, u, h => by
    cases u with
    | none => rfl
    | some _ => cases h
  | some e, u, h => by
    cases u with
    | none => cases h
    | some u =>
      funext ρ
      simp only [evO, E.sim_ok e u h]
theorem I.sim_ok : ∀ (e u : I), e.sim u = true → evI C Γ e = evI C Γ u
  | .ex a, u, h => by
    cases u with
    | ex a' =>
      have h : (a.sim a') = true := h
      funext ρ
      simp only [evI, E.sim_ok a a' h]
    | _ => cases h
  | .rg1 a _ _, u, h => by
    cases u with
    | rg1 a' _ _ =>
      have h : (a.sim a') = true := h
      funext ρ
      simp only [evI, E.sim_ok a a' h]
    | _ => cases h
  | .rg2 a b _ _, u, h => by
    cases u with
    | rg2 a' b' _ _ =>
      have h : (a.sim a' && b.sim b') = true := h
      simp only [Bool.and_eq_true, decide_eq_true_eq, beq_iff_eq] at h
      obtain ⟨h1, h2⟩ := h
      funext ρ
      simp only [evI, E.sim_ok a a' h1, E.sim_ok b b' h2]
    | _ => cases h
  | .enu a _ _, u, h => by
    cases u with
    | enu a' _ _ =>
      have h : (a.sim a') = true := h
      funext ρ
      simp only [evI, E.sim_ok a a' h]
    | _ => cases h
  | .zip a b _ _, u, h => by
    cases u with
    | zip a' b' _ _ =>
      have h : (a.sim a' && b.sim b') = true := h
      simp only [Bool.and_eq_true, decide_eq_true_eq, beq_iff_eq] at h
      obtain ⟨h1, h2⟩ := h
      funext ρ
      simp only [evI, E.sim_ok a a' h1, E.sim_ok b b' h2]
    | _ => cases h
end
theorem I.sim0_ok : ∀ (e u : I), e.sim u = true → evI0 C Γ e = evI0 C Γ u
  | .ex a, u, h => by
    cases u with
    | ex a' =>
      have h : (a.sim a') = true := h
      funext ρ
      simp only [evI0, E.sim_ok C Γ a a' h]
    | _ => cases h
  | .rg1 a _ _, u, h => by
    cases u with
    | rg1 a' _ _ =>
      have h : (a.sim a') = true := h
      funext ρ
      simp only [evI0, E.sim_ok C Γ a a' h]
    | _ => cases h
  | .rg2 a b _ _, u, h => by
    cases u with
    | rg2 a' b' _ _ =>
      have h : (a.sim a' && b.sim b') = true := h
      simp only [Bool.and_eq_true, decide_eq_true_eq, beq_iff_eq] at h
      obtain ⟨h1, h2⟩ := h
      funext ρ
      simp only [evI0, E.sim_ok C Γ a a' h1, E.sim_ok C Γ b b' h2]
    | _ => cases h
  | .enu a _ _, u, h => by
    cases u with
    | enu a' _ _ =>
      have h : (a.sim a') = true := h
      funext ρ
      simp only [evI0, E.sim_ok C Γ a a' h]
    | _ => cases h
  | .zip a b _ _, u, h => by
    cases u with
    | zip a' b' _ _ =>
      have h : (a.sim a' && b.sim b') = true := h
      simp only [Bool.and_eq_true, decide_eq_true_eq, beq_iff_eq] at h
      obtain ⟨h1, h2⟩ := h
      funext ρ
      simp only [evI0, E.sim_ok C Γ a a' h1, E.sim_ok C Γ b b' h2]
    | _ => cases h
end
end Ev
set_option Elab.async false
set_option linter.all false
set_option maxRecDepth 100000
set_option maxHeartbeats 1000000
/-! Ev26: .. statements; a def's text, seen by a test. -/
namespace Ev
open PySem PySem.Spec PyProof.Rows L2
section
variable (C : Nat → D) (Γ : Fns) (sub : Str → Str → Option Bool)
mutual
theorem HE.sim_ok : ∀ (e u : HE), e.sim u = true → evHE e = evHE u
  | .at _ _ _ _, u, h => by
    cases u with
    | «at» _ _ _ _ => rfl
    | _ => cases h
  | .non _ _, u, h => by
    cases u with
    | non _ _ => rfl
    | _ => cases h
  | .bl b _ _, u, h => by
    cases u with
    | bl b' _ _ =>
      have h : (b == b') = true := h
      rw [beq_iff_eq] at h
      subst h; rfl
    | _ => cases h
  | .int b _ _, u, h => by
    cases u with
    | int b' _ _ =>
      have h : (b == b') = true := h
      rw [beq_iff_eq] at h
      subst h; rfl
    | _ => cases h
  | .str b _ _, u, h => by
    cases u with
    | str b' _ _ =>
      have h : b = b' := of_decide_eq_true h
      subst h; rfl
    | _ => cases h
  | .tup es _ _, u, h => by
    cases u with
    | tup us _ _ =>
      funext d
      simp only [evHE, HE.sims_ok es us h]
    | _ => cases h
theorem HE.sims_ok : ∀ (e u : List HE), HE.sims e u = true → evHEs e = evHEs u
  | [], u, h => by
    cases u with
    | nil => rfl
    | cons _ _ => cases h
  | e :: es, u, h => by
    cases u with
    | nil => cases h
    | cons u us =>
      have h : (e.sim u && HE.sims es us) = true := h
      rw [Bool.and_eq_true] at h
      funext d
      simp only [evHEs, HE.sim_ok e u h.1, HE.sims_ok es us h.2]
end
theorem Hd.sims_ok : ∀ (e u : List Hd), Hd.sims e u = true → evHds sub e = evHds sub u
  | [], u, h => by
    cases u with
    | nil => rfl
    | cons _ _ => cases h
  | e :: es, u, h => by
    cases u with
    | nil => cases h
    | cons u us =>
      have h : (decide (e.c = u.c) && e.e.sim u.e && Hd.sims es us) = true := h
      simp only [Bool.and_eq_true, decide_eq_true_eq] at h
      funext c a
      simp only [evHds, h.1.1, HE.sim_ok _ _ h.1.2, Hd.sims_ok es us h.2]
theorem evT_sim {e u : E} (h : e.sim u = true) (b : Bool) : evT C Γ b e = evT C Γ b u := by
  have q := E.sim_ok C Γ e u h
  funext ρ
  cases b with
  | false => simp only [evT, q]
  | true =>
    cases e with
    | lst as _ =>
      cases u with
      | lst us _ => simp only [evT, E.sima_ok C Γ as us h]
      | _ => cases h
    | dic0 t _ =>
      cases u with
      | dic0 t' _ =>
        have h : (t == t') = true := h
        rw [beq_iff_eq] at h
        subst h; rfl
      | _ => cases h
    | _ =>
      cases u <;> first
        | rfl
        | cases h
theorem Nm.sim_ok {n m : Nm} (h : n.sim m = true) : n.i = m.i ∧ n.own = m.own := by
  unfold Nm.sim at h
  simpa using h
theorem evTs_sim : ∀ (n m : List Nm) (e u : List E), Nm.sims n m = true → E.sims e u = true → evTs C Γ n e = evTs C Γ m u
  | [], m, e, u, hn, he => by
    cases m with
    | nil => cases e with
      | nil => cases u with
        | nil => rfl
        | cons _ _ => cases he
      | cons _ _ => cases u with
        | nil => cases he
        | cons _ _ => rfl
    | cons _ _ => cases hn
  | n :: ns, m, e, u, hn, he => by
    cases m with
    | nil => cases hn
    | cons m ms =>
      have hn : (n.sim m && Nm.sims ns ms) = true := hn
      rw [Bool.and_eq_true] at hn
      cases e with
      | nil => cases u with
        | nil => rfl
        | cons _ _ => cases he
      | cons e es => cases u with
        | nil => cases he
        | cons u us =>
          have he : (e.sim u && E.sims es us) = true := he
          rw [Bool.and_eq_true] at he
          funext ρ
          simp only [evTs, (Nm.sim_ok hn.1).2, evT_sim C Γ he.1, evTs_sim ns ms es us hn.2 he.2]
theorem setTs_sim : ∀ (n m : List Nm), Nm.sims n m = true → setTs n = setTs m
  | [], m, hn => by
    cases m with
    | nil => rfl
    | cons _ _ => cases hn
  | n :: ns, m, hn => by
    cases m with
    | nil => cases hn
    | cons m ms =>
      have hn : (n.sim m && Nm.sims ns ms) = true := hn
      rw [Bool.and_eq_true] at hn
      funext ts ρ
      cases ts with
      | nil => rfl
      | cons t ts => simp only [setTs, (Nm.sim_ok hn.1).1, setTs_sim ns ms hn.2]
mutual
theorem S.sim_ok : ∀ (s u : S), s.sim u = true → evS C Γ sub s = evS C Γ sub u
  | .set n e _, u, h => by
    cases u with
    | set n' e' _ =>
      have h : (n.sim n' && e.sim e') = true := h
      simp only [Bool.and_eq_true, decide_eq_true_eq, beq_iff_eq] at h
      obtain ⟨h1, h2⟩ := h
      funext ρ
      simp only [evS, evT_sim C Γ h2, (Nm.sim_ok h1).1, (Nm.sim_ok h1).2]
    | _ => cases h
  | .unp n e _, u, h => by
    cases u with
    | unp n' e' _ =>
      have h : (n.sim n' && e.sim e') = true := h
      simp only [Bool.and_eq_true, decide_eq_true_eq, beq_iff_eq] at h
      obtain ⟨h1, h2⟩ := h
      funext ρ
      simp only [evS, Tg.sim_ok n n' h1, E.sim_ok C Γ e e' h2]
    | _ => cases h
  | .par n e _ _ _ _ _, u, h => by
    cases u with
    | par n' e' _ _ _ _ _ =>
      have h : (Nm.sims n n' && E.sims e e') = true := h
      simp only [Bool.and_eq_true, decide_eq_true_eq, beq_iff_eq] at h
      obtain ⟨h1, h2⟩ := h
      funext ρ
      simp only [evS, evTs_sim C Γ n n' e e' h1 h2, setTs_sim n n' h1]
    | _ => cases h
  | .put n i v _ _, u, h => by
    cases u with
    | put n' i' v' _ _ =>
      have h : (n.sim n' && i.sim i' && v.sim v') = true := h
      simp only [Bool.and_eq_true, decide_eq_true_eq, beq_iff_eq] at h
      obtain ⟨⟨h1, h2⟩, h3⟩ := h
      funext ρ
      simp only [evS, E.sim_ok C Γ i i' h2, E.sim_ok C Γ v v' h3, (Nm.sim_ok h1).1]
    | _ => cases h
  | .app n e _ _ _, u, h => by
    cases u with
    | app n' e' _ _ _ =>
      have h : (n.sim n' && e.sim e') = true := h
      simp only [Bool.and_eq_true, decide_eq_true_eq, beq_iff_eq] at h
      obtain ⟨h1, h2⟩ := h
      funext ρ
      simp only [evS, E.sim_ok C Γ e e' h2, (Nm.sim_ok h1).1]
    | _ => cases h
  | .exp e _, u, h => by
    cases u with
    | exp e' _ =>
      have h : (e.sim e') = true := h
      funext ρ
      simp only [evS, E.sim_ok C Γ e e' h]
    | _ => cases h
  | .ret e _, u, h => by
    cases u with
    | ret e' _ =>
      have h : (e.sim e') = true := h
      funext ρ
      simp only [evS, E.sim_ok C Γ e e' h]
    | _ => cases h
  | .ifs c a b _, u, h => by
    cases u with
    | ifs c' a' b' _ =>
      have h : (c.sim c' && S.sims a a' && S.sims b b') = true := h
      simp only [Bool.and_eq_true, decide_eq_true_eq, beq_iff_eq] at h
      obtain ⟨⟨h1, h2⟩, h3⟩ := h
      funext ρ
      simp only [evS, E.sim_ok C Γ c c' h1, S.sims_ok a a' h2, S.sims_ok b b' h3]
    | _ => cases h
  | .forr c a b _, u, h => by
    cases u with
    | forr c' a' b' _ =>
      have h : (c.sim c' && a.sim a' && S.sims b b') = true := h
      simp only [Bool.and_eq_true, decide_eq_true_eq, beq_iff_eq] at h
      obtain ⟨⟨h1, h2⟩, h3⟩ := h
      funext ρ
      simp only [evS, Tg.sim_ok c c' h1, I.sim0_ok C Γ a a' h2, S.sims_ok b b' h3]
    | _ => cases h
  | .rse c e _ _ _, u, h => by
    cases u with
    | rse c' e' _ _ _ =>
      have h : (decide (c = c') && e.sim e') = true := h
      simp only [Bool.and_eq_true, decide_eq_true_eq, beq_iff_eq] at h
      obtain ⟨rfl, h2⟩ := h
      funext ρ
      simp only [evS, E.sim_ok C Γ e e' h2]
    | _ => cases h
  | .tri b hs _, u, h => by
    cases u with
    | tri b' hs' _ =>
      have h : (S.sims b b' && Hd.sims hs hs') = true := h
      simp only [Bool.and_eq_true, decide_eq_true_eq, beq_iff_eq] at h
      obtain ⟨h1, h2⟩ := h
      funext ρ
      simp only [evS, S.sims_ok b b' h1, Hd.sims_ok sub hs hs' h2]
    | _ => cases h
  | .frz is, u, h => by
    cases u with
    | frz js =>
      have h : (is == js) = true := h
      simp only [Bool.and_eq_true, decide_eq_true_eq, beq_iff_eq] at h
      obtain rfl := h
      funext ρ
      rfl
    | _ => cases h
theorem S.sims_ok : ∀ (e u : List S), S.sims e u = true → evSs C Γ sub e = evSs C Γ sub u
  | [], u, h => by
    cases u with
    | nil => rfl
    | cons _ _ => cases h
  | e :: es, u, h => by
    cases u with
    | nil => cases h
    | cons u us =>
      have h : (e.sim u && S.sims es us) = true := h
      rw [Bool.and_eq_true] at h
      funext ρ
      simp only [evSs, S.sim_ok e u h.1, S.sims_ok es us h.2]
end
end
/-- a def's text is what is written of it -/
def statB (cn fn : Nat → Str) (xn : Str → Bool) (B : Tb) (f : Df) : Bool := decide (B.N = f.N) && C8.scC f.N f.ps (defScope f.st) && match cSs B 30 (defBody f.st) with
  | some b => S.sims b f.body && S.chks cn fn xn f.N (defScope f.st) (fun _ => true) b
  | none => false
theorem stat_of {cn fn : Nat → Str} {xn : Str → Bool} {B : Tb} {f : Df} (h : statB cn fn xn B f = true) : f.Stat cn fn xn := by
  unfold statB at h
  simp only [Bool.and_eq_true] at h
  refine ⟨C8.fnScope_by h.1.2, ?_⟩
  have h := h.2
  split at h
  · rename_i b hb
    rw [Bool.and_eq_true] at h
    exact ⟨b, cSs_ok _ _ _ hb, h.2, fun C Γ sub => S.sims_ok C Γ sub b f.body h.1⟩
  · cases h
end Ev
set_option Elab.async false
set_option linter.all false
set_option maxRecDepth 100000
set_option maxHeartbeats 2000000
/-! Ev27: an own exception whose maker calls the one above (ValueError's), then keeps `at`. -/
namespace PySem
namespace EvX
open PySem.W PySem.ESX
/-- ValueError's maker, bound -/
abbrev vb (x : Addr) : Obj :=
  { cls := .type "method-wrapper", dict := none,
    data := .fields #[.builtin "ValueError.__init__", .ref x], slots := #[] }
theorem ty_vi : typeOf (.builtin "ValueError.__init__") = pure (.type "wrapper_descriptor") := by
  show builtinType _ = _
  rw [builtinType_eq_fast]; kernel_rfl
theorem nc_vi : (kfb_private% "nameAndClass") (Value.builtin "ValueError.__init__") =
    (pure (("__init__" : Str), Value.type "ValueError") : Sem (Str × Value)) := by kernel_rfl
section
variable {prog : Program} {w : World} {M : Model} {A : Around} {E : Value → Shared → Prop}
variable {h : Heap} {g : Array GenState} {d : Drawn} {t : Nat} {os : OsState}
theorem get_vi {x C : Addr} {P : Fin → Shared → Prop} (hin : W.Looks M h (isInstance (.ref x) (.type "ValueError")) true)
    (hq : P (.done (.ret (.ref h.objs.size))) ⟨h.push (vb x), g, d, t, os⟩) :
    wpAny M A (Builtin.«wrapper_descriptor.__get__» ⟨[.builtin "ValueError.__init__", .ref x, .ref C], []⟩) P E ⟨h, g, d, t, os⟩ := by
  unfold Builtin.«wrapper_descriptor.__get__»
  refine wpAny_bind (wpAny_of_eq (a := (.builtin "ValueError.__init__", some (.ref x), some (.ref C))) (by first | rfl | kernel_rfl) ?_)
  show wpAny M A ((kfb_private% "checkInstance") (.builtin "ValueError.__init__") (.ref x) >>= fun _ =>
    newFields "method-wrapper" [.builtin "ValueError.__init__", .ref x] >>= fun r => ret r) P E _
  refine wpAny_bind ?_
  show wpAny M A ((kfb_private% "nameAndClass") (.builtin "ValueError.__init__") >>= _) _ E _
  refine wpAny_bind (wpAny_of_eq nc_vi ?_)
  show wpAny M A (isInstance (.ref x) (.type "ValueError") >>= _) _ E _
  refine wpAny_bind (hin.at ?_)
  refine KFB.if_not rfl ?_
  exact wpAny_pure (wpAny_bind (wpAny_newObj_type (wpAny_pure hq)))
variable {so D x C : Addr} {l₀ l : List Value} {K : Frag} {name : Str}
theorem sup_vi {tk : Tok} {Q : Fin → Shared → Prop} (hso : h.get? so = some (ks_superObj D x C))
    (hno : W.Looks (model prog w) h (opaqueClassAbove (.ref C)) none) (hC : W.Looks (model prog w) h (mroOf (.ref C)) l₀)
    (hl : (l₀.dropWhile (· != .ref D)).drop 1 = l) (X : K.In h) (hf : alongIn K name l = some (some (.builtin "ValueError.__init__")))
    (hxC : x ≠ C) (hn : (name == ("__class__" : Str)) = false) (hin : W.Looks (model prog w) h (isInstance (.ref x) (.type "ValueError")) true)
    (hq : Q (.done (.ret (.ref h.objs.size))) ⟨h.push (vb x), g, d, t, os⟩) :
    wpAny (model prog w) A (Builtin.«super.__getattribute__» ⟨[.ref so, .str name tk], []⟩) Q E ⟨h, g, d, t, os⟩ := by
  have k1 := slot_wd.lookup
  have k2 : (Value.ref x == Value.ref C) = false := by simp [hxC]
  have k3 : Shared.TypeIs ⟨h, g, d, t, os⟩ (.builtin "ValueError.__init__") "wrapper_descriptor" := ty_vi
  have k4 := ty_vi
  have k5 : (ks_superObj D x C).data = .fields #[.ref D, .ref x, .ref C] := rfl
  have e0 : (#[.ref D, .ref x, .ref C] : Array Value)[0]? = some (.ref D) := rfl
  have e1 : (#[.ref D, .ref x, .ref C] : Array Value)[1]? = some (.ref x) := rfl
  have e2 : (#[.ref D, .ref x, .ref C] : Array Value)[2]? = some (.ref C) := rfl
  unfold Builtin.«super.__getattribute__»
  repeat (first
    | (with_reducible refine wpAny_field hso k5 e0 ?_)
    | (with_reducible refine wpAny_field hso k5 e1 ?_)
    | (with_reducible refine wpAny_field hso k5 e2 ?_)
    | (with_reducible refine ks_wpAny_notOpaque hno ?_)
    | (with_reducible refine Looks.at hC ?_; rw [hl])
    | (refine ks_forIn_along X (fun _ _ => rfl) rfl ?_ hf)
    | (with_reducible refine wpAny_call_entry slot_wd k3 entry_wd ?_ (args_wd _ _ _))
    | (with_reducible refine get_vi hin ?_)
    | (with_reducible refine ⟨_, rfl, ?_⟩)
    | (simp only [hn, k2, Bool.or_false, Bool.false_eq_true, if_false])
    | wp_step
    | dsimp only)
  all_goals exact hq
theorem meth_vi {pl : Sem Bool} {Q : Value × List Value → Shared → Prop} (hso : h.get? so = some (ks_superObj D x C))
    (hno : W.Looks (model prog w) h (opaqueClassAbove (.ref C)) none) (hC : W.Looks (model prog w) h (mroOf (.ref C)) l₀)
    (hl : (l₀.dropWhile (· != .ref D)).drop 1 = l) (X : K.In h) (hf : alongIn K name l = some (some (.builtin "ValueError.__init__")))
    (hxC : x ≠ C) (hn : (name == ("__class__" : Str)) = false) (hin : W.Looks (model prog w) h (isInstance (.ref x) (.type "ValueError")) true)
    (hq : Q (.ref h.objs.size, []) ⟨h.push (vb x), g, d, t + 1, os⟩) :
    wpAny (model prog w) A (getMethod (.ref so) name pl) Q E ⟨h, g, d, t, os⟩ := by
  have k1 := F.ks_slot_super_ga.lookup
  have k2 := F.ks_canon_super_ga
  have k3 : ∀ t', (⟨h, g, d, t', os⟩ : Shared).TypeIs (.ref so) "super" := fun _ => ⟨_, hso, rfl⟩
  unfold getMethod
  refine wpAny_bind (wpAny_specialOf (k3 _) k1 ?_)
  show wpAny _ _ (if (Manifest.canonical "super.__getattribute__" != "object.__getattribute__") = true then _ else _) _ _ _
  rw [if_pos k2]
  unfold getAttr getAttrBy
  refine wpAny_bind (wpAny_bind (wpAny_mkText (wpAny_holding (wpAny_bind (wpAny_typeOf (k3 _) (wpAny_bind (wpAny_of_eq k1 ?_)))))))
  show wpAny _ _ (getAttrByItsOwn (.ref so) (.str name t) (.type "super") (.builtin "super.__getattribute__") true false) _ _ _
  unfold getAttrByItsOwn hookBefore callGetattribute boundAndCalled
  refine wpAny_bind (wpAny_of_eq (show (if onTheHeap (.type "super") then typeLookup (.type "super") "__getattr__" else pure none) = pure none from rfl) ?_)
  refine wpAny_bind (wpAny_attempt (wpAny_holding ?_))
  show wpAny _ _ (bindSpecial (.builtin "super.__getattribute__") (.ref so) >>= _) _ _ _
  refine wpAny_bind (wpAny_of_eq (F.ks_slot_super_ga.bind _) ?_)
  have main : wpAny (model prog w) A (call (.builtin "super.__getattribute__") [.ref so, .str name t]) (fun v s' => v = .ref h.objs.size ∧ s' = ⟨h.push (vb x), g, d, t + 1, os⟩) (fun _ _ => False) ⟨h, g, d, t + 1, os⟩ :=
    wpAny_call_entry F.ks_slot_super_ga (k3 _) F.ks_entry_super_ga (sup_vi hso hno hC hl X hf hxC hn hin ⟨_, rfl, rfl, rfl⟩) (F.ks_gaArgs_super _ _)
  refine wpAny_mono main (fun v s' hv => ?_) fun _ _ z => z.elim
  obtain ⟨rfl, rfl⟩ := hv
  exact wpAny_pure (wpAny_pure hq)
end
section
open PySem.Calls PyProof.Rows
variable {M : Model} {A : Around} {E : Value → Shared → Prop} {s : Shared}
theorem with_vi0 {pos : Pos} {u x : Addr} {first : List Value} {as : List (Bool × Sem Value)} {Q : Value → Shared → Prop} (pl : as.any (·.1) = false)
    (h : wpAny M A (evalArgs (.ref u) true as [])
      (fun a s₁ => s₁.heap.get? u = some (vb x) ∧ wpAny M A (call (.ref u) (first ++ a.pos) a.kw) Q E s₁) E s) :
    wpAny M A (callWith pos (.ref u) first as []) Q E s := by
  unfold callWith
  refine wpAny_bind (wpAny_holding (wpAny_mono h (fun a s₁ h₁ => wpAny_bind (wpAny_standAt ?_)) fun _ _ z => z))
  obtain ⟨k1, k2⟩ := h₁
  simp only [pl, List.any_nil, Bool.or_false]
  refine wpAny_bind (m := keeperOf (.ref u)) ?_
  unfold keeperOf
  refine wpAny_bind (wpAny_load k1 ?_)
  simp only [vb, show (Value.type "method-wrapper" != Value.type "method") = true by decide,
    show (Value.type "method-wrapper" == Value.type "builtin_function_or_method" || Value.type "method-wrapper" == Value.type "method-wrapper") = true by decide, if_true]
  refine wpAny_pure ?_
  exact wpAny_bind (wpAny_mono k2 (fun r s₂ hr => wpAny_bind (wpAny_holding (wpAny_point (wpAny_pure hr)))) fun _ _ z => z)
theorem with_vi {pos : Pos} {u x : Addr} {first : List Value} {env : Env} {e : Expr} {rest : List Expr} {Q : Value → Shared → Prop}
    (h : wpAny M A (spliced (backTo pos (starEach (e :: rest) env))) (fun vs s₁ => s₁.heap.get? u = some (vb x) ∧ wpAny M A (call (.ref u) (first ++ vs)) Q E s₁) E s)
    (he : starEach (e :: rest) env = (false, eval e env) :: starEach rest env := by rfl) (hp : (backTo pos (starEach rest env)).any (·.1) = false := by rfl) :
    wpAny M A (callWith pos (.ref u) first (backTo pos (starEach (e :: rest) env)) []) Q E s := by
  rw [he] at h ⊢
  refine with_vi0 (x := x) ?_ (evalArgs_plain h)
  show (false || (backTo pos (starEach rest env)).any (·.1)) = false
  rw [hp]; rfl
end
section
variable {prog : Program} {w : World} {A : Around} {E : Value → Shared → Prop} {h : Heap} {g : Array GenState} {d : Drawn} {t : Nat} {os : OsState}
variable {nm q : Str} {C N : Addr} {bs bm : List Value} {hdct : Bool} {sn : List Str} {sub : List Value} {ab : Bool} {col : Option Bool} {dd : Option Addr}
variable {k0 k1 k2 k3 k5 : Option Value}
theorem chk_vi (T : HandSPX.refsVE bm = true) {e : Addr} {oe : Obj} {rest : List Value} {Q : Unit → Shared → Prop}
    (hC : h.get? C = some (excClassObj nm q C N bs bm hdct sn sub ab col dd k0 k1 k2 k3 k5 "ValueError.__new__")) (he : h.get? e = some oe) (hcls : oe.cls = .ref C) (hq : Q () ⟨h, g, d, t, os⟩) :
    wpAny (model prog w) A (checkBoundCall "ValueError.__init__" ⟨.ref e :: rest, []⟩) Q E ⟨h, g, d, t, os⟩ := by
  have k1 := F.excBase_ValueError.noStar
  simp only [checkBoundCall, F.excBase_ValueError.initKind, F.excBase_ValueError.initRow]
  repeat (first | (with_reducible refine wpAny_loadPart_at he ?_; rw [hcls]) | with_reducible refine wpAny_loadPart_at hC ?_ | wp_step)
  refine wpAny_onRaise ?_
  rw [show ∀ (a b : String) (n : Nat), Bind.check ⟨.positional, "*", "ValueError", .self, [⟨"args", .varPos, false⟩]⟩ a b n (List.map (fun x => x.fst) ({ pos := Value.ref e :: rest } : Args).kw) = pure () from
    fun a b n => check_star_args _ _ _ _ _ _]
  exact wpAny_pure hq
theorem call_vi {u e t0 : Addr} {rest : List Value} {Q : Value → Shared → Prop} (T : HandSPX.refsVE bm = true)
    (hC : h.get? C = some (excClassObj nm q C N bs bm hdct sn sub ab col dd k0 k1 k2 k3 k5 "ValueError.__new__")) (he : h.get? e = some (HandSPX.excO C t0)) (hu : h.get? u = some (vb e)) (hr : rest.length ≤ sizeLine)
    (hq : ∀ h' t1, (∀ b o, b ≠ e → h.get? b = some o → h'.get? b = some o) → h'.get? e = some (HandSPX.excO C t1) → Q .none ⟨h', g, d, t, os⟩) :
    wpAny (model prog w) A (call (.ref u) rest) Q E ⟨h, g, d, t, os⟩ := by
  refine wpAny_call (codeAny_of_tree ?_)
  show wpAny _ A.in1 (callAny (.ref u) ⟨rest, []⟩) _ _ _
  simp only [callAny]
  refine wpAny_bind (wpAny_load hu ?_)
  simp only [vb, show (Value.type "method-wrapper" == Value.type "method" || Value.type "method-wrapper" == Value.type "builtin_function_or_method"
    || Value.type "method-wrapper" == Value.type "method-wrapper") = true by decide, if_true]
  refine W.KFB.if_so (by decide) ?_
  refine wpAny_bind (chk_vi T hC he rfl ?_)
  refine wpAny_bind (wpAny_pure (wpAny_pure ?_))
  refine ⟨Code.quiet_builtin _ (by decide +kernel), codeAny_builtin F.excBase_ValueError.initEntry ?_⟩
  rw [Around.under_plainId F.excBase_ValueError.init.plain _]
  wp_walk
  refine hq _ h.objs.size (fun b o hb ho => ?_) ?_
  · exact (Heap.get?_update_other _ _ (Ne.symm hb)).trans (Heap.get?_push_of_some _ ho)
  · rw [Heap.get?_update_self _ (Heap.get?_push_of_some _ he) rfl]
    rfl
end
end EvX
end PySem
set_option Elab.async false
set_option linter.all false
set_option maxRecDepth 100000
set_option maxHeartbeats 2000000
/-! Ev28: the maker of an own exception: its promise, and the call of the class. -/
namespace Ev
open PySem PySem.Spec PyProof.Rows L2
/-- what the written part says of such a class C over D (D's def is the maker) -/
structure AtC (K : PySem.W.Frag) (D C : Addr) : Prop where
  oex : OexC K C
  no : PySem.W.findIn K (.ref C) atS = some none
  sup : PySem.W.ks_superIn K C D "__init__" = some (some (.builtin "ValueError.__init__"))
  sub : PySem.W.mroIn K C (.ref D) = some true
  ve : PySem.W.mroIn K C (.type "ValueError") = some true
/-- the maker's promise -/
def spIni (K : PySem.W.Frag) (D : Addr) : Sp := fun vs H Q E => ∃ (a C : Addr) (v : V), vs = [.ref a, v] ∧ AtC K D C ∧ H a = some (exo a C none) ∧
  ∀ dx, H dx = none → dx ≠ a → Q .non (upd (upd H dx (exd dx [(atS, v)])) a (exo a C (some dx)))
def iniScope : Scope := ⟨.function, [("self", .local), ("at", .local), ("__class__", .free), ("super", .globalImplicit)], false, false, []⟩
def iniBody (p0 p1 p2 p3 p4 p5 p6 p7 p8 p9 : Pos) : List Stmt :=
  [.Expr (.Call (.Attribute (.Call (.Name "super" p0) [] [] p1) "__init__" p2) [.Name "at" p3] [] p4) p5,
   .Assign [.Attribute (.Name "self" p6) "at" p7] (.Name "at" p8) p9]
def iniP : List Str := ["self", "at"]
section
variable {P : Program} {w : World} {K : PySem.W.Frag} {mg : Str → Option Value} {base : Heap}
theorem he_ini {env : PySem.Env} {o : Expr} {name x : Str} {apos pos p : Pos} (hline : (apos.endLine == pos.line) = true) : eval (.Call (.Attribute o name apos) [.Name x p] [] pos) env = (do
    let ov ← attributeBase o name env (eval o env)
    standAt apos.atName
    let (f, first) ← holding [ov] (getMethod ov name (do return (← importBound o env).getD true))
    callWith pos f first (backTo pos (starEach [.Name x p] env)) []) := by
  rw [arm_eval_Call]
  have hpos : methodCallPos true o env apos pos = pure pos := by unfold methodCallPos; simp [hline]
  have hform : methodCallForm ([Expr.Name x p].length + ([] : List Keyword).length) (backTo pos (starEach [.Name x p] env)) (backToKw pos (keywordEach [] env)) = true := rfl
  unfold methodCall
  rw [hform]
  unfold calleeOf
  simp only [if_true, hpos, pure_bind]
  rfl
theorem AtNo {A : Around} {outer : List PySem.Env} {s : Shared} {H : Hp} {a : Addr} {o : HO} {ob : Obj} (e0 : Env0 P w K mg base A outer s H) (ha : H a = some o) : ¬ K.lookup a = some ob := fun e => by
  have z := (e0.bs a _ (e0.mod.kin a _ e)).2
  rw [ha] at z
  cases z
theorem fn_ini {CX : CXT} {k : Nat} {D f cda cc : Addr} {params : Arguments} {dV kV doc pm ct oc ccl cl : Value} {an od cdd cld : Option Addr} {osl ccs csl : Array (Option Value)} {q : Str}
    {p0 p1 p2 p3 p4 p5 p6 p7 p8 p9 : Pos} {ar : Arg} {vs : Array Value} {file : Str} {tf : Tok} {cdD : ClassData}
    (lk : K.lookup f = some ⟨oc, od, .func (PySem.W.ksFn "__init__" q params (iniBody p0 p1 p2 p3 p4 p5 p6 p7 p8 p9) iniScope dV kV doc pm an (.ref cda) ct cc), osl⟩)
    (hline : (p2.endLine == p4.line) = true) (hp : (params.posonlyargs ++ params.args).head? = some ar) (har : ar.arg = "self") (hcd : PySem.W.codeIn K (.ref cda) q = true) (hcode : K.lookup cda = some ⟨ccl, cdd, .fields vs, ccs⟩) (hvs : vs[2]? = some (.str file tf)) (hfile : ((P.main.file : Str) == file) = true)
    (hcell : K.lookup cc = some ⟨cl, cld, .cell (some (.ref D)), csl⟩) (hD : PySem.W.clsIn K D = some cdD) (hs : mg "super" = none) (htop : (P.main.scope.names.lookup ("super" : Str)).isSome = false) (hst : PySem.W.nsIn K cStatics "thirdparty.any" = some none) :
    FnOk P w K mg base CX k f (PySem.W.ksFn "__init__" q params (iniBody p0 p1 p2 p3 p4 p5 p6 p7 p8 p9) iniScope dV kV doc pm an (.ref cda) ct cc) iniP (spIni K D) := by
  refine ⟨fun vs H Q E h => by obtain ⟨a, C, v, rfl, _⟩ := h; rfl, ?_⟩
  intro A outer s H args us vs' Q E hr e0 hb r hsp
  obtain ⟨a, C, v, rfl, T, ha, hq⟩ := hsp
  cases r with
  | @cons _ u0 _ us1 r1 r2 =>
  cases r2 with
  | @cons _ u _ us2 rv r3 =>
  cases r3
  obtain rfl : u0 = Value.ref a := r1
  have KX : K.In s.heap := e0.mod.kin.keeps fun b o e => (e0.bs b o e).1
  have lim : s.heap.NoLimit := e0.mod.nolimit.keeps fun b o e => (e0.bs b o e).1
  obtain ⟨nm, qn, N, bs, bm, sn, sub, ab, col, dd, k0, k1, k2, k3, k5, hC, hbm⟩ := T.oex.cls
  have hcl : PySem.W.clsIn K C = some { name := nm, bases := bs, mro := .ref C :: bm, ns := N, qualname := qn, hasDict := true, slotNames := sn, subclasses := sub, abstract := ab, collection := col, hasDel := false } := by
    unfold PySem.W.clsIn; rw [hC] <;> rfl
  obtain ⟨t1, ho⟩ := exo_at e0.hok ha
  refine PySem.ks_codeAny_call_defAt (fd := PySem.W.ksFn "__init__" q params (iniBody p0 p1 p2 p3 p4 p5 p6 p7 p8 p9) iniScope dV kV doc pm an (.ref cda) ct cc) (body := iniBody p0 p1 p2 p3 p4 p5 p6 p7 p8 p9)
    (binds := iniP.zip [.ref a, u]) hr.depth (KX _ _ lk) rfl lim (PySem.W.codeRec_of KX hcd) rfl hb (show ∀ x ∈ iniScope.names, x.2 ≠ .cell by decide) ?_ fun h0 hns kk => ?_
  · intro y hy
    rcases List.mem_cons.mp hy with rfl | hy
    · rfl
    · rcases List.mem_cons.mp hy with rfl | hy
      · rfl
      · cases hy
  generalize hL : s.heap.objs.size = L at hns
  generalize hce : callEnv (PySem.W.ksFn "__init__" q params (iniBody p0 p1 p2 p3 p4 p5 p6 p7 p8 p9) iniScope dV kV doc pm an (.ref cda) ct cc) L f = ce
  have c1 : ce.scope = iniScope := by subst hce; rfl
  have c2 : ce.func = some f := by subst hce; rfl
  have c3 : ce.code = .ref cda := by subst hce; rfl
  have c4 : ce.globals = mainGlobals := by subst hce; rfl
  have c5 : ce.builtins = builtinsNs := by subst hce; rfl
  have c6 : ce.cells = [(("__class__" : Str), cc)] := by subst hce; rfl
  have c7 : ce.locals = L := by subst hce; rfl
  have c8 : interactive ce = false := by subst hce; rfl
  have kd : ∀ x, ce.kindOf x = iniScope.names.lookup x := fun x => by rw [← c1]; rfl
  have v0 : (iniP.zip [Value.ref a, u]).reverse.lookup ("self" : Str) = some (Value.ref a) := rfl
  have v1 : (iniP.zip [Value.ref a, u]).reverse.lookup ("at" : Str) = some u := rfl
  generalize hm0 : (fun x => (iniP.zip [Value.ref a, u]).reverse.lookup x) = m0 at hns
  have w0 : m0 "self" = some (Value.ref a) := by subst hm0; exact v0
  have w1 : m0 "at" = some u := by subst hm0; exact v1
  obtain ⟨hh, gg, dr, tk, os⟩ := s
  dsimp only at kk ho KX ⊢
  have X0 : K.In h0 := KX.keeps kk
  obtain ⟨mb, b1, b2⟩ := e0.mod.blt
  have bk : ∀ b o, base.get? b = some o → h0.get? b = some o := fun b o e => kk b o (e0.bs b o e).1
  have naC : a ≠ C := by
    rintro rfl
    have e := KX _ _ hC
    rw [ho] at e
    cases e
  obtain ⟨oD, hD1, hD2⟩ : ∃ oD, h0.get? D = some oD ∧ oD.data = .cls cdD := by
    unfold PySem.W.clsIn at hD
    split at hD
    · rename_i c d cd' sl ho'
      cases hD
      exact ⟨_, X0 _ _ ho', rfl⟩
    · cases hD
  have kf : ce.scope.kind = .function := by rw [c1]; rfl
  have hloc : ∀ {x : Str} {vv : Value} {h1 : Heap} {t1 : Nat} {p : Pos} {QQ : Value → Shared → Prop} {EE : Value → Shared → Prop} {AA : Around}, h1.Ns L m0 → m0 x = some vv → iniScope.names.lookup x = some .local → (x == ("__debug__" : Str)) = false →
      QQ vv ⟨h1, gg, dr, t1, os⟩ → wpAny (model P w) AA (eval (.Name x p) ce) QQ EE ⟨h1, gg, dr, t1, os⟩ := fun {x vv h1 t1 p QQ EE AA} n e l d q =>
    _root_.PySem.wpAny_Name (wpAny_loadName_local kf ((kd _).trans l) (by rw [c7]; exact n) e q) d
  refine PySem.ks_wpAt_execs_cons (PySem.ks_wpAt_Expr_any (PySem.ks_wpAt_MethodCall ?_ (he_ini hline)) c8)
  refine PySem.ks_wpAt_super_base (env := ce) (fd := PySem.W.ksFn "__init__" q params (iniBody p0 p1 p2 p3 p4 p5 p6 p7 p8 p9) iniScope dV kV doc pm an (.ref cda) ct cc) ((kd _).trans rfl) ((kd _).trans rfl) (by decide) c2 (X0 _ _ lk) rfl hp c3 (X0 _ _ hcode) rfl hvs hfile htop ?_
  refine PySem.W.ks_loadName_global kf ((kd _).trans rfl) (PySem.Calls.loadGlobal_builtin (by rw [c4]; exact e0.mod.glob.keeps bk) hs (by rw [c5]; exact b1.keeps bk) ((b2 _ (by decide)).trans (show bootBuiltins "super" = some (.type "super") by first | rfl | decide +kernel | kernel_rfl)) ⟨rfl, ?_⟩)
  refine wpAny_loadName_free kf ((kd _).trans rfl) (by rw [c6]; rfl) ⟨_, X0 _ _ hcell, rfl⟩ ?_
  rw [har]
  refine wpAny_loadName_local kf ((kd _).trans rfl) (by rw [c7]; exact hns) w0 ?_
  refine PySem.ks_wpAny_isType_cls hD1 hD2 ⟨rfl, ?_⟩
  refine PySem.ks_wpAny_call_super hD1 hD2 (kk _ _ ho) rfl (fun c e => by cases e) (PySem.W.looks_mroIn X0 T.sub) (fun h1 e k1' => ?_)
  have X1 : K.In h1 := X0.keeps k1'
  have o1 : h1.get? a = some ({ cls := .ref C, data := .fields #[.ref t1, .none, .none, .none, .bool false, .none] } : Obj) := k1' _ _ (kk _ _ ho)
  have I1 : PySem.W.InstAt h1 a { cls := .ref C, data := .fields #[.ref t1, .none, .none, .none, .bool false, .none] } C none := ⟨o1, rfl, rfl, trivial⟩
  have hf : PySem.W.alongIn K "__init__" (((Value.ref C :: bm).dropWhile (· != .ref D)).drop 1) = some (some (.builtin "ValueError.__init__")) := by
    have z := T.sup
    unfold PySem.W.ks_superIn at z
    rw [hcl] at z
    exact z
  refine EvX.meth_vi (D := D) (x := a) (C := C) (l₀ := .ref C :: bm) e (PySem.W.looks_opaque X1 hst) ((PySem.W.looks_clsIn X1 hcl).andThen .now) rfl X1 hf naC (by decide) (I1.type.andThen (PySem.W.looks_mroIn X1 T.ve)) ?_
  dsimp only
  generalize hz : h1.objs.size = z1
  have k2' : ∀ b o, h1.get? b = some o → (h1.push (EvX.vb a)).get? b = some o := fun b o e => Heap.get?_push_of_some _ e
  have hu : (h1.push (EvX.vb a)).get? z1 = some (EvX.vb a) := by subst hz; exact Heap.get?_push_at rfl rfl
  have n2 : (h1.push (EvX.vb a)).Ns L m0 := (hns.keeps k1').keeps k2'
  refine EvX.with_vi (x := a) ?_
  refine PyProof.Rows.spliced_more (hloc n2 w1 rfl (by decide) (PyProof.Rows.spliced_none ⟨hu, ?_⟩))
  refine EvX.call_vi hbm (k2' _ _ (X1 _ _ hC)) (k2' _ _ o1) hu (by show 1 ≤ sizeLine; rw [sizeLine_eq]; decide) fun h3 t3 k3' o3 => ?_
  have hL2 : hh.objs.size = L := hL
  have La : L ≠ a := fun z => absurd (Heap.lt_size ho) (by rw [hL2, z]; exact Nat.lt_irrefl _)
  have n3 : h3.Ns L m0 := by
    obtain ⟨oL, es, ep, z1, z2⟩ := n2
    exact ⟨oL, es, ep, k3' _ _ La z1, z2⟩
  have ltL : L < h3.objs.size := by
    obtain ⟨oL, es, ep, z1, z2⟩ := n3
    exact Heap.lt_size z1
  have kA : ∀ b o, b ≠ a → hh.get? b = some o → h3.get? b = some o := fun b o z e => k3' b o z (k2' _ _ (k1' _ _ (kk _ _ e)))
  have X3 : K.In h3 := fun b o eb => by
    refine kA b o ?_ (KX b o eb)
    rintro rfl
    exact AtNo e0 ha eb
  refine PySem.ks_wpAt_execs_cons (PySem.ks_wpAt_Assign_Attr (wpAt_of_wpAny (hloc n3 w1 rfl (by decide) (hloc n3 w0 rfl (by decide) ?_))))
  refine PySem.W.set_plain X3 (ox := { cls := .ref C, data := .fields #[.ref t3, .none, .none, .none, .bool false, .none] }) (od := none) ⟨o3, rfl, rfl, trivial⟩ T.oex.sa ?_
  refine PySem.HandSPX.exc_osa X3 o3 hcl (show PySem.HandSPX.refsVE (.ref C :: bm) = true from hbm) rfl T.no (fun h4 t4 dx k4 dn dne hx hn => ?_)
  refine wpAt_of_wpAny (wpAny_pure ?_)
  have hdx : hh.objs.size ≤ dx := by rw [hL2]; exact Nat.le_of_lt (Nat.lt_of_lt_of_le ltL dn)
  have hnd : H dx = none := e0.hok.fresh hdx
  have kT : ∀ b o, b ≠ a → hh.get? b = some o → h4.get? b = some o := fun b o z e => k4 b o z (kA b o z e)
  have nd : ∀ {b : Addr} {o : Obj}, hh.get? b = some o → b ≠ dx := fun {b o} z => Nat.ne_of_lt (Nat.lt_of_lt_of_le (Heap.lt_size z) hdx)
  have na : ∀ {b : Addr}, H b = none → b ≠ a := fun {b} n z => by
    rw [z, ha] at n
    cases n
  refine ⟨.non, upd (upd H dx (exd dx [(atS, v)])) a (exo a C (some dx)), rfl, e0.bare, ?_, ?_, rfl, hq dx hnd dne⟩
  · refine ⟨fun b o z n _ _ => kT b o (na n) z, fun b o z n _ _ => ⟨o.slots, kT b o (na n) z⟩, fun b o z n _ => by rw [upd_ne (na n), upd_ne (nd z)]; exact n, fun b o z _ => ?_, fun b xs z => ?_, fun b o vv z => ?_, fun b ps z => ?_⟩
    · by_cases hb : b = a
      · exact ⟨_, by rw [hb]; exact hx⟩
      · exact ⟨o, kT b o hb z⟩
    · rw [upd_ne (at_ne ha z exo_tup), upd_ne (ne_of_none z hnd)]; exact z
    · rw [upd_ne (at_ne ha z exo_frz), upd_ne (ne_of_none z hnd)]; exact z
    · exact ⟨#[], by rw [upd_ne (at_ne ha z exo_tbl), upd_ne (ne_of_none z hnd), z]; simp⟩
  · intro b o z
    by_cases hb : b = a
    · subst hb
      rw [upd_same] at z
      cases z
      exact exo_ok hx
    · rw [upd_ne hb] at z
      by_cases hd : b = dx
      · subst hd
        rw [upd_same] at z
        cases z
        exact exd_ok hn (relO_put (fs := []) rv fun g => True.intro)
      · rw [upd_ne hd] at z
        have ca : ∀ {c : Addr}, c = b ∨ H c = some (.own b) → c ≠ a := fun {c} hc => by
          rcases hc with rfl | hc
          · exact hb
          · exact at_ne ha hc exo_own
        exact (e0.hok b o z).stay (fun c vv hc y => kT c vv (ca hc) y) (fun c hc => by rw [upd_ne (at_ne ha hc exo_own), upd_ne (ne_of_none hc hnd)]; exact hc) (fun c xs hc => by rw [upd_ne (at_ne ha hc exo_tup), upd_ne (ne_of_none hc hnd)]; exact hc)
end
end Ev
set_option Elab.async false
set_option linter.all false
set_option maxRecDepth 100000
set_option maxHeartbeats 2000000
/-! Ev29: the class called. -/
namespace Ev
open PySem PySem.Spec PyProof.Rows L2
section
variable {P : Program} {w : World} {K : PySem.W.Frag} {mg : Str → Option Value} {base : Heap}
theorem mkc_of {A : Around} {c : Str} {C D fI : Addr} {k : Nat} {fd : FuncData} (T : AtC K D C) (iC : PySem.W.findIn K (.ref C) "__init__" = some (some (.ref fI))) (tI : PySem.W.typeIn K (.ref fI) = some (.type "function"))
    (F1 : FnOk P w K mg base (L2.CX P w) k fI fd iniP (spIni K D)) (hr : Room (k + 1) A) (hb : Binds K fd iniP []) (hm : mg c = some (.ref C)) (hd : (c == ("__debug__" : Str)) = false) : MkC P w K mg base A c C := by
  intro X eP ew eK em eb eA calm gl e p0 p1
  subst eP ew eK em eb eA
  have q := pmk_oex (X := X) (x := c) (p := p0) (pos := p1) (e := e.py) (es := []) (ta := WA X (E.pys [e])) T.oex iC tI F1 hr hb .nil passL gl hm (pa_wa _) hd (star_py e [] X.env) rfl
  intro pins s σ H Q I h
  refine q pins s σ H Q I ?_
  refine WA.of (pa_cons (pe_we e.py) pa_nil (star_py e [] X.env)) ?_
  show WE X e.py σ H _
  intro pins2 s2 I2
  refine thn (h pins2 s2 I2) fun u s3 h3 => ?_
  obtain ⟨v, H1, I3, rv, h4⟩ := h3
  refine ⟨v, H1, I3, rv, Nat.le_of_ble_eq_true rfl, fun a na => ?_⟩
  refine ⟨a, C, v, rfl, T, upd_same, fun dx hdx hne => ⟨rfl, dx, [(atS, v)], upd_same, ?_, ?_, ?_⟩⟩
  · rw [upd_ne hne, upd_same]
  · rwa [upd_ne hne] at hdx
  · have n1 : H1 dx = none := by rwa [upd_ne hne] at hdx
    have z := h4 dx n1
    have eq : upd (del (upd (upd (upd H1 a (exo a C none)) dx (exd dx [(atS, v)])) a (exo a C (some dx))) a) dx (.xd [(atS, v)]) = upd H1 dx (.xd [(atS, v)]) := by
      funext b
      by_cases hb : b = dx
      · subst hb
        rw [upd_same, upd_same]
      · rw [upd_ne hb, upd_ne hb]
        by_cases hA : b = a
        · subst hA
          rw [del_same, na]
        · rw [del_ne hA, upd_ne hA, upd_ne hb, upd_ne hA]
    rw [eq]
    exact z
end
end Ev
set_option Elab.async false
set_option linter.all false
set_option maxRecDepth 100000
set_option maxHeartbeats 2000000
/-! Ev30: a law's end: facts of the top, gathered. -/
namespace Ev
open PySem PySem.Spec PyProof.Rows L2
/-- how a def's arguments bind -/
def BindC (f : Df) : Prop := ∀ (kV doc pm : Value) (an : Option Addr) (cdv ct : Value) (us : List Value), us.length = f.ps.length →
  bindArgs (PySem.W.fnOf f.x f.qual (defArgs f.st) (defBody f.st) (defScope f.st) .none kV doc pm an cdv ct) ⟨us, []⟩ = pure (f.ps.zip us)
section
variable {K : PySem.W.Frag} {mg : Str → Option Value}
/-- a def behind the top -/
theorem fact_of {h : Heap} (X : K.In h) (G : h.Ns mainGlobals mg) (d : Df) (bc : BindC d) {f : Addr} {oc : Value} {od an : Option Addr} {sl : Array (Option Value)} {kV doc pm cd ct : Value}
    (a : PySem.W.nsIn K mainGlobals d.x = some (some (.ref f))) (l : K.lookup f = some ⟨oc, od, .func (PySem.W.fnOf d.x d.qual (defArgs d.st) (defBody d.st) (defScope d.st) .none kV doc pm an cd ct), sl⟩)
    (c : PySem.W.codeIn K cd d.qual = true) (k : PySem.W.keepIn K (.ref f) = true) :
    ∃ a, mg d.x = some (.ref a) ∧ PySem.W.keepIn K (.ref a) = true ∧ ∃ fd, Fun K d.x d.qual d.st a fd ∧ Binds K fd d.ps [] :=
  ⟨f, PySem.W.mg_of X G a, k, _, fun_mk l c k, (fun_mk l c k).binds bc⟩
end
end Ev
set_option Elab.async false
set_option linter.all false
set_option maxRecDepth 100000
set_option maxHeartbeats 2000000
/-! Ev31: constants of the top. -/
namespace Ev
open PySem PySem.Spec PyProof.Rows L2
/-- a name of the top bears the value d, whatever else is known -/
def CstOk (K : PySem.W.Frag) (w : World) (mg : Str → Option Value) (x : Str) (d : D) : Prop :=
  ∃ u v, mg x = some u ∧ RelV v u ∧ (∀ a, v = .ref a → ∃ o, K.lookup a = some o ∧ o.dict = none) ∧ ∀ R : RE, R.K = K → R.w = w → Rep R 0 d v
def strsOf : List Value → Option (List Str)
  | [] => some []
  | .str s _ :: r => (strsOf r).map (s :: ·)
  | _ => none
def pairsOf : List DictEntry → Option (List (Str × Str))
  | [] => some []
  | ⟨_, .str s _, .str t _⟩ :: r => (pairsOf r).map ((s, t) :: ·)
  | _ => none
section
variable {K : PySem.W.Frag} {w : World} {mg : Str → Option Value} {h : Heap}
theorem cst_int (X : K.In h) (G : h.Ns mainGlobals mg) {x : Str} {n : Int} {t : Tok} (a : PySem.W.nsIn K mainGlobals x = some (some (.int n t))) : CstOk K w mg x (.int n) :=
  ⟨_, .int n, PySem.W.mg_of X G a, ⟨t, rfl⟩, fun _ e => by injection e, fun _ _ _ => rfl⟩
theorem cst_str (X : K.In h) (G : h.Ns mainGlobals mg) {x : Str} {n : Str} {t : Tok} (a : PySem.W.nsIn K mainGlobals x = some (some (.str n t))) : CstOk K w mg x (.str n) :=
  ⟨_, .str n, PySem.W.mg_of X G a, ⟨t, rfl⟩, fun _ e => by injection e, fun _ _ _ => rfl⟩
theorem strs_vals : ∀ {l : List Value} {ss : List Str}, strsOf l = some ss → Vals (ss.map V.str) l
  | [], ss, e => by cases e; exact .nil
  | v :: r, ss, e => by
    unfold strsOf at e
    split at e
    · rename_i z; cases z
    · rename_i s t r' z
      cases z
      obtain ⟨q, e1, rfl⟩ := Option.map_eq_some_iff.mp e
      exact .cons ⟨t, rfl⟩ (strs_vals e1)
    · cases e
theorem reps_strs (R : RE) (k : Nat) : ∀ (ss : List Str), Reps R k (ss.map D.str) (ss.map V.str)
  | [] => rfl
  | s :: ss => ⟨.str s, _, rfl, rfl, reps_strs R k ss⟩
theorem cst_tup (X : K.In h) (G : h.Ns mainGlobals mg) {x : Str} {a : Addr} {its : Array Value} {n : Nat} {sl : Array (Option Value)} (ss : List Str) (e : PySem.W.nsIn K mainGlobals x = some (some (.ref a)))
    (l : K.lookup a = some ⟨.type "tuple", none, .seq its n, sl⟩) (q : strsOf its.toList = some ss) (sz : its.size ≤ sizeLine) : CstOk K w mg x (.tup (ss.map .str)) :=
  ⟨_, .ref a, PySem.W.mg_of X G e, rfl, fun b eb => by cases eb; exact ⟨_, l, rfl⟩, fun R eK ew => ⟨a, _, rfl, .inr ⟨by rw [eK]; exact ⟨_, _, _, l, rfl, rfl, sz, strs_vals q⟩, by cases ss <;> rfl⟩, reps_strs _ _ _⟩⟩
theorem pairs_noref : ∀ {l : List DictEntry} {ps : List (Str × Str)}, pairsOf l = some ps → l.any (·.refKey) = false
  | [], _, _ => rfl
  | v :: r, ps, e => by
    unfold pairsOf at e
    split at e
    · rename_i z; cases z
    · rename_i hh s1 t1 s2 t2 r' z
      cases z
      obtain ⟨q, e1, rfl⟩ := Option.map_eq_some_iff.mp e
      rw [List.any_cons, pairs_noref e1]
      rfl
    · cases e
def kvOf (ps : List (Str × Str)) : List (Key × V) := (ps.map fun p => (.inr p.1 : Key)).zip (ps.map fun p => V.str p.2)
theorem pairs_find (z : Str) : ∀ {l : List DictEntry} {ps : List (Str × Str)}, pairsOf l = some ps → RelO (valV (kvOf ps) (.inr z)) ((l.find? (·.key.isStr z)).map (·.val))
  | [], ps, e => by cases e; exact True.intro
  | v :: r, ps, e => by
    unfold pairsOf at e
    split at e
    · rename_i y; cases y
    · rename_i hh s1 t1 s2 t2 r' y
      cases y
      obtain ⟨q, e1, rfl⟩ := Option.map_eq_some_iff.mp e
      have ih := pairs_find z e1
      by_cases hz : s1 = z
      · subst hz
        have k : (Value.str s1 t1).isStr s1 = true := by rw [PySem.W.isStr_of]; show (s1 == s1) = true; simp
        rw [List.find?_cons_of_pos (by exact k)]
        show RelO (valV (((.inr s1 : Key), V.str s2) :: kvOf q) (.inr s1)) _
        unfold valV
        rw [List.find?_cons_of_pos (by simp)]
        exact ⟨_, rfl⟩
      · have k : (Value.str s1 t1).isStr z = false := by rw [PySem.W.isStr_of]; show (s1 == z) = false; simpa using hz
        rw [List.find?_cons_of_neg (by rw [k]; exact Bool.false_ne_true)]
        show RelO (valV (((.inr s1 : Key), V.str s2) :: kvOf q) (.inr z)) _
        unfold valV at ih ⊢
        rw [List.find?_cons_of_neg (by simpa using hz)]
        exact ih
    · cases e
theorem repk_pairs (R : RE) (k : Nat) : ∀ (ps : List (Str × Str)), RepK R k (ps.map fun p => (D.str p.1, D.str p.2)) (ps.map fun p => (.inr p.1 : Key)) (ps.map fun p => V.str p.2)
  | [] => ⟨rfl, rfl⟩
  | p :: ps => ⟨_, _, _, _, rfl, rfl, rfl, rfl, repk_pairs R k ps⟩
theorem cst_dic (X : K.In h) (G : h.Ns mainGlobals mg) {x : Str} {a : Addr} {es : Array DictEntry} {n : Nat} (ps : List (Str × Str)) (e : PySem.W.nsIn K mainGlobals x = some (some (.ref a)))
    (l : K.lookup a = some ⟨.type "dict", none, .dict es n, #[]⟩) (lit : PySem.W.KeysLit w.params es.toList) (low : (a == sysModules) = false) (q : pairsOf es.toList = some ps) (ne : strHd (ps.map fun p => (D.str p.1, D.str p.2)) = true) :
    CstOk K w mg x (.dct false (ps.map fun p => (.str p.1, .str p.2))) := by
  have key : ∀ z : Str, ∃ r, PySem.W.nsIn K a z = some r ∧ RelO (valV (kvOf ps) (.inr z)) r := fun z => by
    refine ⟨(es.toList.find? (·.key.isStr z)).map (·.val), ?_, pairs_find z q⟩
    unfold PySem.W.nsIn
    rw [l]
    dsimp only
    cases hf : es.toList.find? (·.key.isStr z) with
    | some e => rfl
    | none =>
      dsimp only
      rw [pairs_noref q]; rfl
  refine ⟨_, .ref a, PySem.W.mg_of X G e, rfl, fun b eb => by cases eb; exact ⟨_, l, rfl⟩, fun R eK ew => ⟨a, _, rfl, _, .inr ⟨⟨es, n, ?_, ?_⟩, ne⟩, ?_, repk_pairs R _ ps⟩⟩
  · rw [eK, ew]; exact ⟨l, lit, low⟩
  · rw [eK]; exact key
  · rw [List.length_map, List.length_map]
end
end Ev
set_option Elab.async false
set_option linter.all false
set_option maxRecDepth 100000
set_option maxHeartbeats 2000000
/-! Ev32: own exception classes of the top. -/
namespace Ev
open PySem PySem.Spec PyProof.Rows L2
/-- a class behind the top, made by the def at fI of the class at D -/
structure ClsOk (K : PySem.W.Frag) (mg : Str → Option Value) (D fI : Addr) (c : Str) (C : Addr) : Prop where
  m : mg c = some (.ref C)
  at_ : AtC K D C
  ini : PySem.W.findIn K (.ref C) "__init__" = some (some (.ref fI))
  xf : XfC K C
section
variable {K : PySem.W.Frag} {w : World} {mg : Str → Option Value} {h : Heap}
theorem cls_of (X : K.In h) (G : h.Ns mainGlobals mg) {D fI C : Addr} (c : Str) {nm q : Str} {N : Addr} {bs bm : List Value} {sn : List Str} {sub : List Value} {ab : Bool} {col : Option Bool} {dd : Option Addr} {m0 m1 m2 m3 m5 : Option Value}
    (aC : PySem.W.nsIn K mainGlobals c = some (some (.ref C))) (xL : K.lookup C = some (excClassObj nm q C N bs bm true sn sub ab col dd m0 m1 m2 m3 m5 "ValueError.__new__")) (rv : PySem.HandSPX.refsVE bm = true)
    (sa : PySem.W.findIn K (.ref C) "__setattr__" = some (some (.builtin "object.__setattr__"))) (eC : PySem.W.subIn K (.ref C) (.type "BaseException") = some true) (tC : PySem.W.typeIn K (.ref C) = some (.type "type")) (kC : PySem.W.keepIn K (.ref C) = true)
    (no : PySem.W.findIn K (.ref C) atS = some none) (su : PySem.W.ks_superIn K C D "__init__" = some (some (.builtin "ValueError.__init__"))) (sD : PySem.W.mroIn K C (.ref D) = some true) (sV : PySem.W.mroIn K C (.type "ValueError") = some true)
    (ini : PySem.W.findIn K (.ref C) "__init__" = some (some (.ref fI))) (ga : PySem.W.findIn K (.ref C) "__getattribute__" = some (some (.builtin "BaseException.__getattribute__"))) (gg : PySem.W.findIn K (.ref C) "__getattr__" = some none)
    (hd : PySem.W.hasDictIn K C = true) : ClsOk K mg D fI c C :=
  ⟨PySem.W.mg_of X G aC, ⟨⟨⟨nm, q, N, bs, bm, sn, sub, ab, col, dd, m0, m1, m2, m3, m5, xL, rv⟩, sa, eC, tC, kC⟩, no, su, sD, sV⟩, ini, ⟨ga, gg, eC, hd⟩⟩
end
end Ev
set_option Elab.async false
set_option linter.all false
set_option maxRecDepth 100000
set_option maxHeartbeats 2000000
/-! Ev33: the module's facts, and the law's promise. -/
namespace Ev
open PySem PySem.Spec PyProof.Rows L2
/-- the law's promise: on a script it answers True -/
def spLaw (K : PySem.W.Frag) (good : List Int → Prop) : Sp := fun vs H Q E => ∃ (a : Addr) (ns : List Int), vs = [.ref a] ∧ SqL K H a (ns.map V.int) ∧ good ns ∧ Only H ∧ ∀ H', Q (.bl true) H'
section
variable {P : Program} {w : World} {K : PySem.W.Frag} {mg : Str → Option Value} {base : Heap} {C : Nat → D} {cn fn : Nat → Str} {sub : Str → Str → Option Bool} {xn : Str → Bool}
theorem mg_none {h : Heap} (X : K.In h) (G : h.Ns mainGlobals mg) {x : Str} (e : PySem.W.nsIn K mainGlobals x = some none) : mg x = none := PySem.W.mg_none_of X G e
theorem md_of {D fI : Addr} {fd : FuncData} (b1 : ∀ b : Blt, mg b.nm = none) (b2 : mg "range" = none) (b3 : mg "enumerate" = none) (b4 : mg "zip" = none) (c1 : ∀ n, CstOk K w mg (cn n) (C n))
    (cl : ∀ c, xn c = true → (c == ("__debug__" : Str)) = false ∧ ∃ Cc, ClsOk K mg D fI c Cc) (xs : ∀ c c' b, sub c c' = some b → xn c = true)
    (ex : ∀ c c' b Cc C', sub c c' = some b → mg c = some (.ref Cc) → mg c' = some (.ref C') → PySem.W.exmOne K (.ref Cc) (.ref C') = some b)
    (tI : PySem.W.typeIn K (.ref fI) = some (.type "function")) (bI : Binds K fd iniP []) (F1 : FnOk P w K mg base (L2.CX P w) 3 fI fd iniP (spIni K D)) :
    Md P w K mg base C cn sub xn := by
  have same : ∀ {c Cc Cd}, mg c = some (.ref Cc) → mg c = some (.ref Cd) → Cc = Cd := fun {c Cc Cd} h1 h2 => by
    rw [h1] at h2
    exact (Value.ref.inj (Option.some.inj h2))
  refine ⟨b1, b2, b3, b4, c1, fun c h => ?_, ex, fun c c' Cc h1 h2 => ?_, fun c Cc h1 h2 A hr => ?_⟩
  · obtain ⟨_, Cc, k⟩ := cl c h
    exact ⟨Cc, k.m⟩
  · obtain ⟨_, Cd, k⟩ := cl c (xs _ _ _ h1)
    cases same h2 k.m
    exact ⟨k.xf, k.at_.no⟩
  · obtain ⟨nd, Cd, k⟩ := cl c h1
    cases same h2 k.m
    exact mkc_of k.at_ k.ini tI F1 hr bI h2 nd
theorem law_ok {k : Nat} {df : Nat → Option Df} {f : Df} {fa : Addr} {fd : FuncData} {good : List Int → Prop} (M : Md P w K mg base C cn sub xn) (st : f.Stat cn fn xn) (F : Fun K f.x f.qual f.st fa fd)
    (sts : ∀ n g, df n = some g → g.Stat cn fn xn) (fs : ∀ n, ∃ a, mg (fn n) = some (.ref a) ∧ PySem.W.keepIn K (.ref a) = true ∧ ∀ g, df n = some g → ∃ fd, Fun K g.x g.qual g.st a fd ∧ Binds K fd g.ps [])
    (hg : ∀ ns, good ns → f.run C sub (deep C sub df k) [.scr ns] = .ok (.bl true)) : FnOk P w K mg base (L2.CX P w) (k + 5) fa fd f.ps (spLaw K good) := by
  refine (def_ok M st F (all_ok M sts fs k)).imp fun vs H Q E h => ?_
  obtain ⟨a, ns, rfl, hS, g, hO, q⟩ := h
  refine ⟨⟨K, w, fun _ => none, fun _ => none, fun _ => none, fun a' ns' => a' = a ∧ ns' = ns⟩, [.scr ns], rfl, rfl, ⟨?_, ?_, ?_⟩, ⟨.ref a, _, rfl, ⟨a, rfl, rfl, rfl⟩, rfl⟩, ?_⟩
  · intro b u e; cases e
  · intro b u e; cases e
  · rintro b ms ⟨rfl, rfl⟩; exact hS
  · rw [hg ns g]
    intro v R' H' p r
    cases r
    exact q H'
end
/-- the goal that the head leaves -/
theorem walk {l : PySem.W.OpenLaw} {q : Program} {loose : List Str} {XP : (Str → Option Value) → Heap → Prop} {YP : World → Heap → Prop} {d : DefRec} {K : Params → PySem.W.Frag} {n k : Nat} (hn : l.most = some n) (hn2 : n ≤ sizeLine) (hdf : d.params.defaults = []) (hr : Room k callerA)
    (hY : ∀ (w : World) (h : Heap), YP w h → (K w.params).In h)
    (F : ∀ (w : World) (mg : Str → Option Value) (fa : Addr) (h : Heap), (K w.params).In h → h.Ns mainGlobals mg → mg d.name = some (.ref fa) →
      ∃ fd : FuncData, (∀ (s : Shared) (u : Value), BindsTo s fd ⟨[u], []⟩ [("script", u)]) ∧
        ∀ base : Heap, (K w.params).In base → base.Ns mainGlobals mg → FnOk l.prog w (K w.params) mg base (L2.CX l.prog w) k fa fd ["script"] (spLaw (K w.params) fun ns => ns.length ≤ n)) :
    PySem.W.WalkO q loose XP YP l.row.toRowW d [] (fun f vs => PySem.call f vs) :=
  L2.walk_of (x := "script") (CX := fun w => L2.CX l.prog w) (sp := fun w => spLaw (K w.params) fun ns => ns.length ≤ n) hn hn2 hdf hr hY F (fun w H a ns hl hO hS => ⟨a, ns, rfl, hS, hl, hO, fun _ => rfl⟩)
    fun w H s e s' z => by
      obtain ⟨_, _, _, _, _, _, _, _, _, _, _, _, z⟩ := z
      exact z
end Ev
set_option Elab.async false
set_option linter.all false
set_option maxRecDepth 100000
set_option maxHeartbeats 2000000
/-! Ev34: tables of the end. -/
namespace Ev
open PySem PySem.Spec PyProof.Rows L2
/-- which classes are caught by which -/
def subT (tab : List (Str × Str × Bool)) (c c' : Str) : Option Bool := (tab.find? fun p => decide (p.1 = c) && decide (p.2.1 = c')).map (·.2.2)
theorem subT_mem {tab : List (Str × Str × Bool)} {c c' : Str} {b : Bool} (h : subT tab c c' = some b) : (c, c', b) ∈ tab := by
  unfold subT at h
  obtain ⟨p, h1, h2⟩ := Option.map_eq_some_iff.mp h
  have m := List.mem_of_find?_eq_some h1
  have q := List.find?_some h1
  simp only [Bool.and_eq_true, decide_eq_true_eq] at q
  obtain ⟨p1, p2, p3⟩ := p
  dsimp only at q h2
  obtain ⟨rfl, rfl⟩ := q
  subst h2
  exact m
section
variable {K : PySem.W.Frag} {mg : Str → Option Value}
/-- .. each as the written part tells -/
inductive SubOk (K : PySem.W.Frag) (mg : Str → Option Value) : List (Str × Str × Bool) → Prop where
  | nil : SubOk K mg []
  | cons {c c' : Str} {b : Bool} {A B : Addr} {r : List (Str × Str × Bool)} (m1 : mg c = some (.ref A)) (m2 : mg c' = some (.ref B)) (e : PySem.W.exmOne K (.ref A) (.ref B) = some b) (t : SubOk K mg r) : SubOk K mg ((c, c', b) :: r)
theorem SubOk.at {tab : List (Str × Str × Bool)} (h : SubOk K mg tab) {c c' : Str} {b : Bool} (q : (c, c', b) ∈ tab) : ∃ A B, mg c = some (.ref A) ∧ mg c' = some (.ref B) ∧ PySem.W.exmOne K (.ref A) (.ref B) = some b := by
  induction h with
  | nil => cases q
  | @cons c1 c2 b1 A B r m1 m2 e t ih =>
    cases q with
    | head => exact ⟨A, B, m1, m2, e⟩
    | tail _ q => exact ih q
theorem ex_of {tab : List (Str × Str × Bool)} (h : SubOk K mg tab) : ∀ c c' b Cc C', subT tab c c' = some b → mg c = some (.ref Cc) → mg c' = some (.ref C') → PySem.W.exmOne K (.ref Cc) (.ref C') = some b := by
  intro c c' b Cc C' e m1 m2
  obtain ⟨A, B, n1, n2, z⟩ := h.at (subT_mem e)
  rw [m1] at n1
  rw [m2] at n2
  cases n1
  cases n2
  exact z
/-- the classes -/
inductive ClsAll (K : PySem.W.Frag) (mg : Str → Option Value) (D fI : Addr) : List Str → Prop where
  | nil : ClsAll K mg D fI []
  | cons {c : Str} {C : Addr} {r : List Str} (nd : (c == ("__debug__" : Str)) = false) (h : ClsOk K mg D fI c C) (t : ClsAll K mg D fI r) : ClsAll K mg D fI (c :: r)
theorem ClsAll.at {D fI : Addr} {l : List Str} (h : ClsAll K mg D fI l) : ∀ c, l.contains c = true → (c == ("__debug__" : Str)) = false ∧ ∃ Cc, ClsOk K mg D fI c Cc := by
  intro c q
  have q : c ∈ l := by simpa using q
  revert q
  induction h with
  | nil => intro q; cases q
  | @cons c1 C1 r nd h t ih =>
    intro q
    cases q with
    | head => exact ⟨nd, _, h⟩
    | tail _ q => exact ih (by rw [List.contains_iff_mem]; exact q) q
theorem ex_ref {C : Addr} {cls : Value} {b : Bool} (h1 : PySem.W.subIn K (.ref C) (.type "BaseException") = some true) (hdct : PySem.W.hasDictIn K C = true) (ht : PySem.W.typeIn K (.ref C) = some (.type "type")) (h4 : PySem.W.subIn K cls (.ref C) = some b) : PySem.W.exmOne K cls (.ref C) = some b := PySem.W.exm_ref h1 hdct ht h4
end
end Ev
set_option Elab.async false
set_option linter.all false
set_option maxRecDepth 100000
set_option maxHeartbeats 1000000
/-! Sv1: equations of the evaluator, for simp. -/
namespace Ev
open PySem PySem.Spec PyProof.Rows L2

/-! ### results -/
def ap1 {α β : Type} (f : α → R β) (r : R α) : R β := r >>= f
def ap2 {α β γ : Type} (f : α → β → R γ) (r : R α) (s : R β) : R γ := r >>= fun x => s >>= f x
def ap3 {α β γ δ : Type} (f : α → β → γ → R δ) (r : R α) (s : R β) (t : R γ) : R δ := r >>= fun x => s >>= fun y => t >>= f x y
section
variable {α β γ δ : Type}
@[simp] theorem ap1_ok (f : α → R β) (a : α) : ap1 f (.ok a) = f a := (rfl)
@[simp] theorem ap1_exc (f : α → R β) (c : Str) (a : D) : ap1 f (.exc c a) = .exc c a := (rfl)
@[simp] theorem ap1_fail (f : α → R β) : ap1 f .fail = .fail := (rfl)
@[simp] theorem ap2_ok (f : α → β → R γ) (a : α) (b : β) : ap2 f (.ok a) (.ok b) = f a b := (rfl)
@[simp] theorem ap2_exc (f : α → β → R γ) (c : Str) (a : D) (s : R β) : ap2 f (.exc c a) s = .exc c a := (rfl)
@[simp] theorem ap2_exc2 (f : α → β → R γ) (x : α) (c : Str) (a : D) : ap2 f (.ok x) (.exc c a) = .exc c a := (rfl)
@[simp] theorem ap3_ok (f : α → β → γ → R δ) (a : α) (b : β) (c : γ) : ap3 f (.ok a) (.ok b) (.ok c) = f a b c := (rfl)
@[simp] theorem ap3_exc (f : α → β → γ → R δ) (c : Str) (a : D) (s : R β) (t : R γ) : ap3 f (.exc c a) s t = .exc c a := (rfl)
end

/-! ### slots -/
def getV : Option T → R DL
  | some t => .ok (t.toD, t.lvl)
  | none => .fail
@[simp] theorem getV_some (t : T) : getV (some t) = .ok (t.toD, t.lvl) := (rfl)
def slot : Env → Nat → R DL
  | [], _ => .fail
  | o :: _, 0 => getV o
  | _ :: ρ, i + 1 => slot ρ i
@[simp] theorem slot_zero (o : Option T) (ρ : Env) : slot (o :: ρ) 0 = getV o := (rfl)
@[simp] theorem slot_succ (o : Option T) (ρ : Env) (i : Nat) : slot (o :: ρ) (i + 1) = slot ρ i := (rfl)
theorem slot_eq : ∀ (ρ : Env) (i : Nat), (match ρ[i]? with
    | some (some t) => R.ok (t.toD, t.lvl)
    | _ => .fail) = slot ρ i
  | [], i => by cases i <;> rfl
  | o :: ρ, 0 => by cases o <;> rfl
  | o :: ρ, i + 1 => by rw [List.getElem?_cons_succ]; exact slot_eq ρ i
def slotT : Env → Nat → Option T
  | [], _ => none
  | o :: _, 0 => o
  | _ :: ρ, i + 1 => slotT ρ i
@[simp] theorem slotT_zero (o : Option T) (ρ : Env) : slotT (o :: ρ) 0 = o := (rfl)
@[simp] theorem slotT_succ (o : Option T) (ρ : Env) (i : Nat) : slotT (o :: ρ) (i + 1) = slotT ρ i := (rfl)
theorem slotT_eq : ∀ (ρ : Env) (i : Nat), ρ[i]? = some (slotT ρ i) ∨ (ρ[i]? = none ∧ slotT ρ i = none)
  | [], i => by cases i <;> exact .inr ⟨rfl, rfl⟩
  | o :: ρ, 0 => .inl rfl
  | o :: ρ, i + 1 => by rw [List.getElem?_cons_succ]; exact slotT_eq ρ i
def frzA : Env → Nat → Env
  | [], _ => []
  | o :: ρ, 0 => o.map T.frz :: ρ
  | o :: ρ, i + 1 => o :: frzA ρ i
@[simp] theorem frzA_zero (o : Option T) (ρ : Env) : frzA (o :: ρ) 0 = o.map T.frz :: ρ := (rfl)
@[simp] theorem frzA_succ (o : Option T) (ρ : Env) (i : Nat) : frzA (o :: ρ) (i + 1) = o :: frzA ρ i := (rfl)
theorem frzA_eq : ∀ (ρ : Env) (i : Nat), (match ρ[i]? with | some (some t) => ρ.set i (some t.frz) | _ => ρ) = frzA ρ i
  | [], i => by cases i <;> rfl
  | o :: ρ, 0 => by cases o <;> rfl
  | o :: ρ, i + 1 => by
    show _ = o :: frzA ρ i
    rw [← frzA_eq ρ i, List.getElem?_cons_succ]
    cases e : ρ[i]? with
    | none => rfl
    | some t => cases t <;> rfl
theorem frzAt_nil (ρ : Env) : Env.frzAt ρ [] = ρ := (rfl)
theorem frzAt_cons (ρ : Env) (i : Nat) (is : List Nat) : Env.frzAt ρ (i :: is) = Env.frzAt (frzA ρ i) is := by
  rw [← frzA_eq]; rfl
theorem frzA_cons_range (o : Option T) (is : List Nat) : ∀ ρ : Env, Env.frzAt (o :: ρ) (is.map (· + 1)) = o :: Env.frzAt ρ is := by
  induction is with
  | nil => intro ρ; rfl
  | cons i is ih => intro ρ; rw [List.map_cons, frzAt_cons, frzAt_cons, frzA_succ, ih]
def frzO : Env → Env
  | [] => []
  | o :: ρ => o.map T.frz :: frzO ρ
theorem frz_eq (ρ : Env) : Env.frz ρ = frzO ρ := by
  induction ρ with
  | nil => rfl
  | cons o ρ ih =>
    unfold Env.frz at ih ⊢
    rw [List.length_cons, List.range_succ_eq_map, frzAt_cons, frzA_zero, frzA_cons_range, ih]; rfl
@[simp] theorem frzO_nil : frzO [] = [] := (rfl)
@[simp] theorem frzO_cons (o : Option T) (ρ : Env) : frzO (o :: ρ) = o.map T.frz :: frzO ρ := (rfl)
@[simp] theorem frz_bor (d : D) (k : Nat) : T.frz (.bor d k) = .bor d k := (rfl)
@[simp] theorem frz_fl (ds : List D) : T.frz (.fl ds) = .bor (.lst ds) 0 := (rfl)
@[simp] theorem frz_fd (t : Bool) (kvs : List (D × D)) : T.frz (.fd t kvs) = .bor (.dct t kvs) 0 := (rfl)
def stale1 : Option T → Option T
  | some (.bor d k) => if k = 0 then some (.bor d 0) else none
  | t => t
@[simp] theorem stale_nil : Env.stale [] = [] := (rfl)
@[simp] theorem stale_cons (o : Option T) (ρ : Env) : Env.stale (o :: ρ) = stale1 o :: Env.stale ρ := (rfl)
@[simp] theorem stale1_bor (d : D) : stale1 (some (.bor d 0)) = some (.bor d 0) := (rfl)
@[simp] theorem stale1_fl (ds : List D) : stale1 (some (.fl ds)) = some (.fl ds) := (rfl)
@[simp] theorem stale1_fd (t : Bool) (kvs : List (D × D)) : stale1 (some (.fd t kvs)) = some (.fd t kvs) := (rfl)
@[simp] theorem stale1_none : stale1 none = none := (rfl)
@[simp] theorem toD_bor (d : D) (k : Nat) : T.toD (.bor d k) = d := by unfold T.toD; rfl
@[simp] theorem toD_fl (ds : List D) : T.toD (.fl ds) = .lst ds := by unfold T.toD; rfl
@[simp] theorem toD_fd (t : Bool) (kvs : List (D × D)) : T.toD (.fd t kvs) = .dct t kvs := by unfold T.toD; rfl
@[simp] theorem lvl_bor (d : D) (k : Nat) : T.lvl (.bor d k) = k := by unfold T.lvl; rfl
@[simp] theorem lvl_fl (ds : List D) : T.lvl (.fl ds) = 1 := by unfold T.lvl; rfl
@[simp] theorem lvl_fd (t : Bool) (kvs : List (D × D)) : T.lvl (.fd t kvs) = 1 := by unfold T.lvl; rfl
@[simp] theorem pr_one : pr 1 = 0 := (rfl)

/-! ### expressions -/
def notB (x : DL) : R DL := truD x >>= fun b => .ok (.bl (!b), 0)
def cmpE (o : CmpOp) (x y : DL) : R DL := evCmp o x y >>= fun c => .ok (.bl c, 0)
def mkB : R Bool → R DL
  | .ok b => .ok (.bl b, 0)
  | .exc c a => .exc c a
  | .fail => .fail
@[simp] theorem mkB_ok (b : Bool) : mkB (.ok b) = .ok (.bl b, 0) := (rfl)
theorem cmpE_eq (o : CmpOp) (x y : DL) : cmpE o x y = mkB (evCmp o x y) := by
  unfold cmpE
  cases evCmp o x y <;> rfl
def chn3 (o1 o2 : CmpOp) (r s : R DL) (f : Env → R DL) (ρ : Env) : R DL := r >>= fun x => s >>= fun y => evCmp o1 x y >>= fun b => match b with
  | true => f ρ >>= fun z => evCmp o2 y z >>= fun c => .ok (.bl c, 0)
  | false => .ok (.bl false, 0)
def chnB (o2 : CmpOp) (y : DL) (f : Env → R DL) (ρ : Env) : R Bool → R DL
  | .ok true => ap1 (cmpE o2 y) (f ρ)
  | .ok false => .ok (.bl false, 0)
  | .exc c a => .exc c a
  | .fail => .fail
@[simp] theorem chn3_ok (o1 o2 : CmpOp) (x y : DL) (f : Env → R DL) (ρ : Env) : chn3 o1 o2 (.ok x) (.ok y) f ρ = chnB o2 y f ρ (evCmp o1 x y) := by
  show (evCmp o1 x y >>= _) = _
  cases evCmp o1 x y with
  | ok b => cases b <;> rfl
  | exc c a => rfl
  | fail => rfl
@[simp] theorem chnB_true (o2 : CmpOp) (y : DL) (f : Env → R DL) (ρ : Env) : chnB o2 y f ρ (.ok true) = ap1 (cmpE o2 y) (f ρ) := (rfl)
@[simp] theorem chnB_false (o2 : CmpOp) (y : DL) (f : Env → R DL) (ρ : Env) : chnB o2 y f ρ (.ok false) = .ok (.bl false, 0) := (rfl)
/-- b, and if so r -/
def andZ (b : Bool) (r : R DL) : R DL := match b with
  | true => r
  | false => .ok (.bl false, 0)
def orZ (b : Bool) (r : R DL) : R DL := match b with
  | true => .ok (.bl true, 0)
  | false => r
@[simp] theorem andZ_true (r : R DL) : andZ true r = r := (rfl)
@[simp] theorem andZ_false (r : R DL) : andZ false r = .ok (.bl false, 0) := (rfl)
@[simp] theorem orZ_true (r : R DL) : orZ true r = .ok (.bl true, 0) := (rfl)
@[simp] theorem orZ_false (r : R DL) : orZ false r = r := (rfl)
@[simp] theorem andZ_bl (b c : Bool) : andZ b (.ok (.bl c, 0)) = .ok (.bl (b && c), 0) := by cases b <;> rfl
@[simp] theorem orZ_bl (b c : Bool) : orZ b (.ok (.bl c, 0)) = .ok (.bl (b || c), 0) := by cases b <;> rfl
@[simp] theorem chnB_b (o2 : CmpOp) (y : DL) (f : Env → R DL) (ρ : Env) (b : Bool) : chnB o2 y f ρ (.ok b) = andZ b (ap1 (cmpE o2 y) (f ρ)) := by cases b <;> rfl
def andR (r : R DL) (f : Env → R DL) (ρ : Env) : R DL := r >>= fun x => match x with
  | (.bl true, _) => f ρ
  | (.bl false, _) => .ok (.bl false, 0)
  | _ => .fail
@[simp] theorem andR_true (k : Nat) (f : Env → R DL) (ρ : Env) : andR (.ok (.bl true, k)) f ρ = f ρ := (rfl)
@[simp] theorem andR_false (k : Nat) (f : Env → R DL) (ρ : Env) : andR (.ok (.bl false, k)) f ρ = .ok (.bl false, 0) := (rfl)
@[simp] theorem andR_bl (k : Nat) (f : Env → R DL) (ρ : Env) (b : Bool) : andR (.ok (.bl b, k)) f ρ = andZ b (f ρ) := by cases b <;> rfl
def orR (r : R DL) (f : Env → R DL) (ρ : Env) : R DL := r >>= fun x => match x with
  | (.bl false, _) => f ρ
  | (.bl true, _) => .ok (.bl true, 0)
  | _ => .fail
@[simp] theorem orR_true (k : Nat) (f : Env → R DL) (ρ : Env) : orR (.ok (.bl true, k)) f ρ = .ok (.bl true, 0) := (rfl)
@[simp] theorem orR_false (k : Nat) (f : Env → R DL) (ρ : Env) : orR (.ok (.bl false, k)) f ρ = f ρ := (rfl)
@[simp] theorem orR_bl (k : Nat) (f : Env → R DL) (ρ : Env) (b : Bool) : orR (.ok (.bl b, k)) f ρ = orZ b (f ρ) := by cases b <;> rfl
def ifX {α : Type} (r : R DL) (f g : Env → R α) (ρ : Env) : R α := (r >>= truD) >>= fun b => match b with
  | true => f ρ
  | false => g ρ
def ifB {α : Type} (f g : Env → R α) (ρ : Env) : R Bool → R α
  | .ok true => f ρ
  | .ok false => g ρ
  | .exc c a => .exc c a
  | .fail => .fail
@[simp] theorem ifX_ok {α : Type} (x : DL) (f g : Env → R α) (ρ : Env) : ifX (.ok x) f g ρ = ifB f g ρ (truD x) := by
  unfold ifX
  rw [R.ok_bind]
  cases truD x with
  | ok b => cases b <;> rfl
  | exc c a => rfl
  | fail => rfl
@[simp] theorem ifX_exc {α : Type} (c : Str) (a : D) (f g : Env → R α) (ρ : Env) : ifX (.exc c a) f g ρ = .exc c a := (rfl)
@[simp] theorem ifB_true {α : Type} (f g : Env → R α) (ρ : Env) : ifB f g ρ (.ok true) = f ρ := (rfl)
@[simp] theorem ifB_false {α : Type} (f g : Env → R α) (ρ : Env) : ifB f g ρ (.ok false) = g ρ := (rfl)
theorem ifB_ite {α : Type} (f g : Env → R α) (ρ : Env) (p : Prop) [Decidable p] : ifB f g ρ (.ok (decide p)) = if p then f ρ else g ρ := by
  by_cases h : p <;> simp [h]
theorem ifB_b {α : Type} (f g : Env → R α) (ρ : Env) (b : Bool) : ifB f g ρ (.ok b) = if b = true then f ρ else g ρ := by
  cases b <;> rfl
def mkTup (xs : List DL) : R DL := if xs.length ≤ sizeLine then .ok (.tup (xs.map (·.1)), upL (maxLv xs)) else .fail
def mkLst (xs : List DL) : R DL := if xs.length ≤ sizeLine then .ok (.lst (xs.map (·.1)), upL (maxLv xs)) else .fail
def mkDic (xs : List (D × DL)) : R DL := match litD xs with
  | some (m, k) => .ok (.dct false m, upL k)
  | none => .fail
def consA (x : DL) (xs : List DL) : R (List DL) := .ok (x :: xs)
def appA (x : List DL) (xs : List DL) : R (List DL) := .ok (x ++ xs)
def spl1 : DL → R (List DL)
  | (.lst ds, k) => .ok (ds.map (fun d => (d, lvlOf d (pr k))))
  | (.tup ds, k) => .ok (ds.map (fun d => (d, lvlOf d (pr k))))
  | _ => .fail
@[simp] theorem consA_ok (x : DL) (xs : List DL) : consA x xs = .ok (x :: xs) := (rfl)
@[simp] theorem appA_ok (x xs : List DL) : appA x xs = .ok (x ++ xs) := (rfl)
@[simp] theorem spl1_lst (ds : List D) (k : Nat) : spl1 (.lst ds, k) = .ok (ds.map (fun d => (d, lvlOf d (pr k)))) := (rfl)
@[simp] theorem spl1_tup (ds : List D) (k : Nat) : spl1 (.tup ds, k) = .ok (ds.map (fun d => (d, lvlOf d (pr k)))) := (rfl)
def cons3 (x y : DL) (xs : List (D × DL)) : R (List (D × DL)) := .ok ((x.1, y) :: xs)
@[simp] theorem cons3_ok (x y : DL) (xs : List (D × DL)) : cons3 x y xs = .ok ((x.1, y) :: xs) := (rfl)
def optI : DL → R (Option Int)
  | (.int i, _) => .ok (some i)
  | _ => .fail
@[simp] theorem optI_int (i : Int) (k : Nat) : optI (.int i, k) = .ok (some i) := (rfl)
def revE : DL → R DL
  | (.lst ds, k) => .ok (.lst ds.reverse, upL (pr k))
  | _ => .fail
@[simp] theorem revE_lst (ds : List D) (k : Nat) : revE (.lst ds, k) = .ok (.lst ds.reverse, upL (pr k)) := (rfl)
def isT1 (x : DL) : R DL := evBlt .isTup [x]
def cixR (c : Bool) (d : D) (r : R DL) : R DL := match c with
  | true => r >>= fun x => evMth .index (d, 0) [x]
  | false => .fail
@[simp] theorem cixR_ok (d : D) (x : DL) : cixR true d (.ok x) = evMth .index (d, 0) [x] := (rfl)
def mthR (m : Mth) (r : R DL) (f : Env → R (List DL)) (ρ : Env) : R DL := r >>= fun x => match mthRcv m x with
  | true => f ρ >>= evMth m x
  | false => .fail
@[simp] theorem mthR_get (t : Bool) (kvs : List (D × D)) (k : Nat) (f : Env → R (List DL)) (ρ : Env) : mthR .get (.ok (.dct t kvs, k)) f ρ = ap1 (evMth .get (.dct t kvs, k)) (f ρ) := (rfl)
def lsI1 (xs : List DL) : R DL := .ok (.lst (xs.map (·.1)), upL (maxLv xs))
@[simp] theorem lsI1_eq (xs : List DL) : lsI1 xs = .ok (.lst (xs.map (·.1)), upL (maxLv xs)) := (rfl)
def lcR (b : D → Nat → Env → Option Env) (t : Env → R Bool) (f : Env → R DL) (r : R (List DL)) (ρ : Env) : R (List DL) := r >>= lcLoop b t f ρ
@[simp] theorem lcR_ok (b : D → Nat → Env → Option Env) (t : Env → R Bool) (f : Env → R DL) (xs : List DL) (ρ : Env) : lcR b t f (.ok xs) ρ = lcLoop b t f ρ xs := (rfl)
@[simp] theorem lcR_exc (b : D → Nat → Env → Option Env) (t : Env → R Bool) (f : Env → R DL) (c : Str) (a : D) (ρ : Env) : lcR b t f (.exc c a) ρ = .exc c a := (rfl)
def rg1R (n : Int) : R (List DL) := if small62 n then .ok (rangeI 0 n.toNat) else .fail
def rg2R (m n : Int) : R (List DL) := if small62 m && small62 n then .ok (rangeI m (n - m).toNat) else .fail
def intE : DL → R Int
  | (.int i, _) => .ok i
  | _ => .fail
@[simp] theorem intE_int (i : Int) (k : Nat) : intE (.int i, k) = .ok i := (rfl)
theorem asI_eq (r : R DL) : asI r = ap1 intE r := by
  cases r with
  | ok x => obtain ⟨d, k⟩ := x; cases d <;> rfl
  | exc c a => rfl
  | fail => rfl
def enuE : DL → R (List DL)
  | (.lst ds, k) => .ok (enumI 0 (ds.map fun d => (d, lvlOf d (pr k))))
  | _ => .fail
@[simp] theorem enuE_lst (ds : List D) (k : Nat) : enuE (.lst ds, k) = .ok (enumI 0 (ds.map fun d => (d, lvlOf d (pr k)))) := (rfl)
def zipE (xs ys : List DL) : R (List DL) := .ok (zipI xs ys)
@[simp] theorem zipE_ok (xs ys : List DL) : zipE xs ys = .ok (zipI xs ys) := (rfl)
section
variable (C : Nat → D) (Γ : Fns) (sub : Str → Str → Option Bool) (ρ : Env)
@[simp] theorem evE_var (i : Nat) (x : Str) (p : Pos) : evE C Γ (.var i x p) ρ = slot ρ i := by
  rw [← slot_eq]; rfl
@[simp] theorem evE_cst (n : Nat) (x : Str) (p : Pos) : evE C Γ (.cst n x p) ρ = .ok (C n, 0) := (rfl)
@[simp] theorem evE_int (n : Int) (j : Nat) (p : Pos) : evE C Γ (.int n j p) ρ = .ok (.int n, 0) := (rfl)
@[simp] theorem evE_bl (b : Bool) (j : Nat) (p : Pos) : evE C Γ (.bl b j p) ρ = .ok (.bl b, 0) := (rfl)
@[simp] theorem evE_non (j : Nat) (p : Pos) : evE C Γ (.non j p) ρ = .ok (.non, 0) := (rfl)
@[simp] theorem evE_str (s : Str) (j : Nat) (p : Pos) : evE C Γ (.str s j p) ρ = .ok (.str s, 0) := (rfl)
@[simp] theorem evE_bin (o : Operator) (a b : E) (p : Pos) : evE C Γ (.bin o a b p) ρ = ap2 (evBin o) (evE C Γ a ρ) (evE C Γ b ρ) := (rfl)
@[simp] theorem evE_neg (a : E) (p : Pos) : evE C Γ (.neg a p) ρ = ap1 evNeg (evE C Γ a ρ) := (rfl)
@[simp] theorem evE_not (a : E) (p : Pos) : evE C Γ (.not a p) ρ = ap1 notB (evE C Γ a ρ) := (rfl)
@[simp] theorem evE_cmp (o : CmpOp) (a b : E) (p : Pos) : evE C Γ (.cmp o a b p) ρ = ap2 (cmpE o) (evE C Γ a ρ) (evE C Γ b ρ) := (rfl)
@[simp] theorem evE_chn (o1 o2 : CmpOp) (a b c : E) (p : Pos) : evE C Γ (.chn o1 o2 a b c p) ρ = chn3 o1 o2 (evE C Γ a ρ) (evE C Γ b ρ) (evE C Γ c) ρ := by
  unfold chn3
  rfl
@[simp] theorem evE_and (es : List E) (p : Pos) : evE C Γ (.and es p) ρ = evAnd C Γ es ρ := (rfl)
@[simp] theorem evE_or (es : List E) (p : Pos) : evE C Γ (.or es p) ρ = evOr C Γ es ρ := (rfl)
@[simp] theorem evAnd_one (e : E) : evAnd C Γ [e] ρ = evE C Γ e ρ := (rfl)
@[simp] theorem evAnd_cons (e e2 : E) (es : List E) : evAnd C Γ (e :: e2 :: es) ρ = andR (evE C Γ e ρ) (evAnd C Γ (e2 :: es)) ρ := (rfl)
@[simp] theorem evOr_one (e : E) : evOr C Γ [e] ρ = evE C Γ e ρ := (rfl)
@[simp] theorem evOr_cons (e e2 : E) (es : List E) : evOr C Γ (e :: e2 :: es) ρ = orR (evE C Γ e ρ) (evOr C Γ (e2 :: es)) ρ := (rfl)
@[simp] theorem evE_ife (c a b : E) (p : Pos) : evE C Γ (.ife c a b p) ρ = ifX (evE C Γ c ρ) (evE C Γ a) (evE C Γ b) ρ := by
  show (evE C Γ c ρ >>= _) = _
  unfold ifX
  cases evE C Γ c ρ <;> rfl
@[simp] theorem evE_tup (as : List (Option Pos × E)) (x1 : Nat) (p : Pos) : evE C Γ (.tup as x1 p) ρ = ap1 mkTup (evAs C Γ as ρ) := (rfl)
@[simp] theorem evE_lst (as : List (Option Pos × E)) (p : Pos) : evE C Γ (.lst as p) ρ = ap1 mkLst (evAs C Γ as ρ) := (rfl)
@[simp] theorem evE_dic (kvs : List (E × E)) (p : Pos) : evE C Γ (.dic kvs p) ρ = ap1 mkDic (evKs C Γ kvs ρ) := (rfl)
@[simp] theorem evE_dic0 (t : Bool) (p : Pos) : evE C Γ (.dic0 t p) ρ = .ok (.dct t [], 0) := (rfl)
@[simp] theorem evE_sub (a i : E) (p : Pos) : evE C Γ (.sub a i p) ρ = ap2 evIdx (evE C Γ a ρ) (evE C Γ i ρ) := (rfl)
@[simp] theorem evE_slc (a : E) (lo hi : Option E) (p2 p : Pos) : evE C Γ (.slc a lo hi p2 p) ρ = ap3 evSlc (evE C Γ a ρ) (evO C Γ lo ρ) (evO C Γ hi ρ) := (rfl)
@[simp] theorem evE_rev (a : E) (j : Nat) (p0 p1 p2 p : Pos) : evE C Γ (.rev a j p0 p1 p2 p) ρ = ap1 revE (evE C Γ a ρ) := by
  show (evE C Γ a ρ >>= _) = _
  cases evE C Γ a ρ with
  | ok x => obtain ⟨d, k⟩ := x; cases d <;> rfl
  | exc c a => rfl
  | fail => rfl
@[simp] theorem evE_call (f : Nat) (x : Str) (as : List E) (p1 p : Pos) : evE C Γ (.call f x as p1 p) ρ = ap1 (callD Γ f) (evEs C Γ as ρ) := (rfl)
@[simp] theorem evE_blt (b : Blt) (x : Str) (as : List E) (p1 p : Pos) : evE C Γ (.blt b x as p1 p) ρ = ap1 (evBlt b) (evEs C Γ as ρ) := (rfl)
@[simp] theorem evE_isT (a : E) (p1 p2 p : Pos) : evE C Γ (.isT a p1 p2 p) ρ = ap1 isT1 (evE C Γ a ρ) := (rfl)
@[simp] theorem evE_cix (n : Nat) (x : Str) (a : E) (p0 p1 p : Pos) : evE C Γ (.cix n x a p0 p1 p) ρ = cixR (cixOk (C n)) (C n) (evE C Γ a ρ) := (rfl)
@[simp] theorem evE_mth (m : Mth) (x : Str) (o : E) (as : List E) (p1 p : Pos) : evE C Γ (.mth m x o as p1 p) ρ = mthR m (evE C Γ o ρ) (evEs C Γ as) ρ := (rfl)
@[simp] theorem evE_lsI (it : I) (x : Str) (p1 p : Pos) : evE C Γ (.lsI it x p1 p) ρ = ap1 lsI1 (evI C Γ it ρ) := (rfl)
@[simp] theorem evE_lc (elt : E) (tg : Tg) (it : I) (ifs : List E) (sc : Scope) (own : List (Str × Nat)) (p : Pos) :
    evE C Γ (.lc elt tg it ifs sc own p) ρ = ap1 mkLst (lcR tg.bind (evIfs C Γ ifs) (evE C Γ elt) (evI C Γ it ρ) (wipeE ρ (own.map (·.2)))) := by
  show (evI C Γ it ρ >>= _) = _
  cases evI C Γ it ρ <;> rfl
@[simp] theorem evEs_nil : evEs C Γ [] ρ = .ok [] := (rfl)
@[simp] theorem evEs_cons (e : E) (es : List E) : evEs C Γ (e :: es) ρ = ap2 consA (evE C Γ e ρ) (evEs C Γ es ρ) := (rfl)
@[simp] theorem evAs_nil : evAs C Γ [] ρ = .ok [] := (rfl)
@[simp] theorem evAs_one (e : E) (es : List (Option Pos × E)) : evAs C Γ ((none, e) :: es) ρ = ap2 consA (evE C Γ e ρ) (evAs C Γ es ρ) := (rfl)
@[simp] theorem evAs_star (p : Pos) (e : E) (es : List (Option Pos × E)) : evAs C Γ ((some p, e) :: es) ρ = ap2 appA (ap1 spl1 (evE C Γ e ρ)) (evAs C Γ es ρ) := by
  show (evE C Γ e ρ >>= _) = _
  cases evE C Γ e ρ with
  | ok x => obtain ⟨d, k⟩ := x; cases d <;> rfl
  | exc c a => rfl
  | fail => rfl
@[simp] theorem evKs_nil : evKs C Γ [] ρ = .ok [] := (rfl)
@[simp] theorem evKs_cons (k v : E) (es : List (E × E)) : evKs C Γ ((k, v) :: es) ρ = ap3 cons3 (evE C Γ k ρ) (evE C Γ v ρ) (evKs C Γ es ρ) := (rfl)
@[simp] theorem evO_none : evO C Γ none ρ = .ok none := (rfl)
@[simp] theorem evO_some (e : E) : evO C Γ (some e) ρ = ap1 optI (evE C Γ e ρ) := by
  unfold evO
  cases evE C Γ e ρ with
  | ok x => obtain ⟨d, k⟩ := x; cases d <;> rfl
  | exc c a => rfl
  | fail => rfl
@[simp] theorem evIfs_nil : evIfs C Γ [] ρ = .ok true := (rfl)
@[simp] theorem evIfs_one (e : E) : evIfs C Γ [e] ρ = ap1 truD (evE C Γ e ρ) := (rfl)
@[simp] theorem evI_ex (e : E) : evI C Γ (.ex e) ρ = ap1 itemsOf (evE C Γ e ρ) := (rfl)
@[simp] theorem evI_rg1 (a : E) (p1 p : Pos) : evI C Γ (.rg1 a p1 p) ρ = ap1 rg1R (ap1 intE (evE C Γ a ρ)) := by
  show (asI (evE C Γ a ρ) >>= _) = _
  rw [asI_eq]; rfl
@[simp] theorem evI_rg2 (a b : E) (p1 p : Pos) : evI C Γ (.rg2 a b p1 p) ρ = ap2 rg2R (ap1 intE (evE C Γ a ρ)) (ap1 intE (evE C Γ b ρ)) := by
  show (asI (evE C Γ a ρ) >>= fun m => asI (evE C Γ b ρ) >>= _) = _
  rw [asI_eq, asI_eq]; rfl
@[simp] theorem evI_enu (e : E) (p1 p : Pos) : evI C Γ (.enu e p1 p) ρ = ap1 enuE (evE C Γ e ρ) := by
  show (evE C Γ e ρ >>= _) = _
  cases evE C Γ e ρ with
  | ok x => obtain ⟨d, k⟩ := x; cases d <;> rfl
  | exc c a => rfl
  | fail => rfl
@[simp] theorem evI_zip (a b : E) (p1 p : Pos) : evI C Γ (.zip a b p1 p) ρ = ap2 zipE (ap1 itemsOf (evE C Γ a ρ)) (ap1 itemsOf (evE C Γ b ρ)) := by
  show (evE C Γ a ρ >>= fun x => itemsOf x >>= fun xs => evE C Γ b ρ >>= fun y => itemsOf y >>= fun ys => _) = _
  cases evE C Γ a ρ with
  | ok x =>
    show (itemsOf x >>= _) = ap2 zipE (itemsOf x) _
    cases itemsOf x with
    | ok xs => 
      show (evE C Γ b ρ >>= _) = _
      cases evE C Γ b ρ <;> rfl
    | exc c a => rfl
    | fail => rfl
  | exc c a => rfl
  | fail => rfl

/-! ### statements -/
def seqO (r : R O) (f : Env → R O) : R O := match r with
  | .ok (.nx ρ) => f ρ
  | r => r
@[simp] theorem seqO_nx (ρ : Env) (f : Env → R O) : seqO (.ok (.nx ρ)) f = f ρ := (rfl)
@[simp] theorem seqO_rt (d : D) (f : Env → R O) : seqO (.ok (.rt d)) f = .ok (.rt d) := (rfl)
@[simp] theorem seqO_bk (ρ : Env) (f : Env → R O) : seqO (.ok (.bk ρ)) f = .ok (.bk ρ) := (rfl)
@[simp] theorem seqO_ct (ρ : Env) (f : Env → R O) : seqO (.ok (.ct ρ)) f = .ok (.ct ρ) := (rfl)
@[simp] theorem seqO_exc (c : Str) (a : D) (f : Env → R O) : seqO (.exc c a) f = .exc c a := (rfl)
@[simp] theorem seqO_fail (f : Env → R O) : seqO .fail f = .fail := (rfl)
@[simp] theorem evSs_nil : evSs C Γ sub [] ρ = .ok (.nx ρ) := (rfl)
@[simp] theorem evSs_cons (s : S) (ss : List S) : evSs C Γ sub (s :: ss) ρ = seqO (evS C Γ sub s ρ) (evSs C Γ sub ss) := by
  show (evS C Γ sub s ρ >>= _) = _
  cases evS C Γ sub s ρ with
  | ok o => cases o <;> rfl
  | exc c a => rfl
  | fail => rfl
def setR (i : Nat) (r : R T) (ρ : Env) : R O := r >>= fun t => .ok (.nx (ρ.set i (some t)))
@[simp] theorem setR_ok (i : Nat) (t : T) (ρ : Env) : setR i (.ok t) ρ = .ok (.nx (ρ.set i (some t))) := (rfl)
@[simp] theorem setR_exc (i : Nat) (c : Str) (a : D) (ρ : Env) : setR i (.exc c a) ρ = .exc c a := (rfl)
def borT (x : DL) : R T := .ok (.bor x.1 x.2)
@[simp] theorem borT_ok (d : D) (k : Nat) : borT (d, k) = .ok (.bor d k) := (rfl)
def ownL (xs : List DL) : R T := if maxLv xs = 0 ∧ xs.length ≤ sizeLine then .ok (.fl (xs.map (·.1))) else .fail
@[simp] theorem evT_bor (e : E) : evT C Γ false e ρ = ap1 borT (evE C Γ e ρ) := by
  cases e <;> rfl
@[simp] theorem evT_own (as : List (Option Pos × E)) (p : Pos) : evT C Γ true (.lst as p) ρ = ap1 ownL (evAs C Γ as ρ) := (rfl)
@[simp] theorem evT_dic0 (t : Bool) (p : Pos) : evT C Γ true (.dic0 t p) ρ = .ok (.fd t []) := (rfl)
@[simp] theorem evTs_nil : evTs C Γ [] [] ρ = .ok [] := (rfl)
def consT (t : T) (ts : List T) : R (List T) := .ok (t :: ts)
@[simp] theorem consT_ok (t : T) (ts : List T) : consT t ts = .ok (t :: ts) := (rfl)
@[simp] theorem evTs_cons (n : Nm) (ns : List Nm) (e : E) (es : List E) : evTs C Γ (n :: ns) (e :: es) ρ = ap2 consT (evT C Γ n.own e ρ) (evTs C Γ ns es ρ) := (rfl)
@[simp] theorem setTs_nil : setTs [] [] ρ = ρ := (rfl)
@[simp] theorem setTs_cons (n : Nm) (ns : List Nm) (t : T) (ts : List T) : setTs (n :: ns) (t :: ts) ρ = setTs ns ts (ρ.set n.i (some t)) := (rfl)
def unpR (t : Tg) (r : R DL) (ρ : Env) : R O := r >>= fun x => match t.bind x.1 x.2 ρ with
  | some ρ' => .ok (.nx ρ')
  | none => .fail
def nxO : Option Env → R O
  | some ρ' => .ok (.nx ρ')
  | none => .fail
@[simp] theorem nxO_some (ρ : Env) : nxO (some ρ) = .ok (.nx ρ) := (rfl)
@[simp] theorem unpR_ok (t : Tg) (d : D) (k : Nat) (ρ : Env) : unpR t (.ok (d, k)) ρ = nxO (t.bind d k ρ) := by
  show (match t.bind d k ρ with | some ρ' => R.ok (O.nx ρ') | none => .fail) = _
  cases t.bind d k ρ <;> rfl
@[simp] theorem unpR_exc (t : Tg) (c : Str) (a : D) (ρ : Env) : unpR t (.exc c a) ρ = .exc c a := (rfl)
def parR (ns : List Nm) (r : R (List T)) (ρ : Env) : R O := r >>= fun ts => .ok (.nx (setTs ns ts ρ))
@[simp] theorem parR_ok (ns : List Nm) (ts : List T) (ρ : Env) : parR ns (.ok ts) ρ = .ok (.nx (setTs ns ts ρ)) := (rfl)
@[simp] theorem parR_exc (ns : List Nm) (c : Str) (a : D) (ρ : Env) : parR ns (.exc c a) ρ = .exc c a := (rfl)
def putR (o : Option T) (i : Nat) (v k : R DL) (ρ : Env) : R O := match o with
  | some (.fl ds) => v >>= fun x => k >>= fun y => match x, y with
      | (d, 0), (.int k, _) => match ixN ds.length k with
        | some j => .ok (.nx (Env.stale (ρ.set i (some (.fl (ds.set j d))))))
        | none => .fail
      | _, _ => .fail
  | some (.fd false kvs) => v >>= fun x => k >>= fun y => match x with
      | (d, 0) => if y.1.key.isSome ∧ kvs.length < 1000000 then .ok (.nx (Env.stale (ρ.set i (some (.fd false (dput kvs y.1 d)))))) else .fail
      | _ => .fail
  | _ => .fail
@[simp] theorem putR_fl (ds : List D) (i : Nat) (d : D) (j : Int) (l : Nat) (ρ : Env) : putR (some (.fl ds)) i (.ok (d, 0)) (.ok (.int j, l)) ρ = (match ixN ds.length j with
        | some j => .ok (.nx (Env.stale (ρ.set i (some (.fl (ds.set j d))))))
        | none => .fail) := (rfl)
@[simp] theorem putR_fd (kvs : List (D × D)) (i : Nat) (d y : D) (l : Nat) (ρ : Env) : putR (some (.fd false kvs)) i (.ok (d, 0)) (.ok (y, l)) ρ = (if y.key.isSome ∧ kvs.length < 1000000 then .ok (.nx (Env.stale (ρ.set i (some (.fd false (dput kvs y d)))))) else .fail) := (rfl)
def appR (o : Option T) (i : Nat) (v : R DL) (ρ : Env) : R O := match o with
  | some (.fl ds) => v >>= fun x => match x with
      | (d, 0) => if ds.length < 1000000 then .ok (.nx (Env.stale (ρ.set i (some (.fl (ds ++ [d])))))) else .fail
      | _ => .fail
  | _ => .fail
@[simp] theorem appR_fl (ds : List D) (i : Nat) (d : D) (ρ : Env) : appR (some (.fl ds)) i (.ok (d, 0)) ρ = (if ds.length < 1000000 then .ok (.nx (Env.stale (ρ.set i (some (.fl (ds ++ [d])))))) else .fail) := (rfl)
def expR (r : R DL) (ρ : Env) : R O := r >>= fun _ => .ok (.nx ρ)
@[simp] theorem expR_ok (x : DL) (ρ : Env) : expR (.ok x) ρ = .ok (.nx ρ) := (rfl)
@[simp] theorem expR_exc (c : Str) (a : D) (ρ : Env) : expR (.exc c a) ρ = .exc c a := (rfl)
def retR (r : R DL) : R O := r >>= fun x => match x with
  | (d, 0) => .ok (.rt d)
  | _ => .fail
@[simp] theorem retR_ok (d : D) : retR (.ok (d, 0)) = .ok (.rt d) := (rfl)
@[simp] theorem retR_exc (c : Str) (a : D) : retR (.exc c a) = .exc c a := (rfl)
def forR (b : D → Nat → Env → Option Env) (f : Env → R O) (r : R (List DL)) (ρ : Env) : R O := r >>= fun xs => forLoop b f xs ρ
@[simp] theorem forR_ok (b : D → Nat → Env → Option Env) (f : Env → R O) (xs : List DL) (ρ : Env) : forR b f (.ok xs) ρ = forLoop b f xs ρ := (rfl)
@[simp] theorem forR_exc (b : D → Nat → Env → Option Env) (f : Env → R O) (c : Str) (a : D) (ρ : Env) : forR b f (.exc c a) ρ = .exc c a := (rfl)
def rseR (c : Str) (r : R DL) : R O := r >>= fun x => match x with
  | (d, 0) => .exc c d
  | _ => .fail
@[simp] theorem rseR_ok (c : Str) (d : D) : rseR c (.ok (d, 0)) = .exc c d := (rfl)
def triR (hs : List Hd) (r : R O) : R O := match r with
  | .exc c a => evHds sub hs c a
  | r => r
@[simp] theorem triR_ok (hs : List Hd) (o : O) : triR sub hs (.ok o) = .ok o := (rfl)
@[simp] theorem triR_exc (hs : List Hd) (c : Str) (a : D) : triR sub hs (.exc c a) = evHds sub hs c a := (rfl)
def item0 : DL → R (List DL)
  | (d, 0) => itemsOf (d, 0)
  | _ => .fail
@[simp] theorem item0_ok (d : D) : item0 (d, 0) = itemsOf (d, 0) := (rfl)
def enu0 : DL → R (List DL)
  | (.lst ds, 0) => .ok (enumI 0 (ds.map fun d => (d, 0)))
  | _ => .fail
@[simp] theorem enu0_ok (ds : List D) : enu0 (.lst ds, 0) = .ok (enumI 0 (ds.map fun d => (d, 0))) := (rfl)
def zip0 (x y : DL) : R (List DL) := match x, y with
  | (d, 0), (d', 0) => ap2 zipE (itemsOf (d, 0)) (itemsOf (d', 0))
  | _, _ => .fail
@[simp] theorem zip0_ok (d d' : D) : zip0 (d, 0) (d', 0) = ap2 zipE (itemsOf (d, 0)) (itemsOf (d', 0)) := (rfl)
@[simp] theorem evI0_ex (e : E) : evI0 C Γ (.ex e) ρ = ap1 item0 (evE C Γ e ρ) := by
  show (evE C Γ e ρ >>= _) = _
  cases evE C Γ e ρ with
  | ok x => obtain ⟨d, k⟩ := x; cases k <;> rfl
  | exc c a => rfl
  | fail => rfl
@[simp] theorem evI0_enu (e : E) (p1 p : Pos) : evI0 C Γ (.enu e p1 p) ρ = ap1 enu0 (evE C Γ e ρ) := by
  show (evE C Γ e ρ >>= _) = _
  cases evE C Γ e ρ with
  | ok x => obtain ⟨d, k⟩ := x; cases d <;> cases k <;> rfl
  | exc c a => rfl
  | fail => rfl
@[simp] theorem evI0_zip (a b : E) (p1 p : Pos) : evI0 C Γ (.zip a b p1 p) ρ = ap2 zip0 (evE C Γ a ρ) (evE C Γ b ρ) := by
  show (evE C Γ a ρ >>= fun x => evE C Γ b ρ >>= fun y => _) = _
  cases evE C Γ a ρ with
  | ok x =>
    show (evE C Γ b ρ >>= _) = _
    cases evE C Γ b ρ with
    | ok y => obtain ⟨d, k⟩ := x; obtain ⟨d', k'⟩ := y; cases k <;> cases k' <;> rfl
    | exc c a => rfl
    | fail => rfl
  | exc c a => rfl
  | fail => rfl
@[simp] theorem evI0_rg1 (a : E) (p1 p : Pos) : evI0 C Γ (.rg1 a p1 p) ρ = ap1 rg1R (ap1 intE (evE C Γ a ρ)) := by
  show (asI (evE C Γ a ρ) >>= _) = _
  rw [asI_eq]; rfl
@[simp] theorem evI0_rg2 (a b : E) (p1 p : Pos) : evI0 C Γ (.rg2 a b p1 p) ρ = ap2 rg2R (ap1 intE (evE C Γ a ρ)) (ap1 intE (evE C Γ b ρ)) := by
  show (asI (evE C Γ a ρ) >>= fun m => asI (evE C Γ b ρ) >>= _) = _
  rw [asI_eq, asI_eq]; rfl
@[simp] theorem evS_set (n : Nm) (e : E) (p : Pos) : evS C Γ sub (.set n e p) ρ = setR n.i (evT C Γ n.own e ρ) ρ := (rfl)
@[simp] theorem evS_unp (t : Tg) (e : E) (p : Pos) : evS C Γ sub (.unp t e p) ρ = unpR t (evE C Γ e ρ) ρ := (rfl)
@[simp] theorem evS_par (ns : List Nm) (es : List E) (kt : Nat) (pt : Pos) (k2 : Nat) (pt2 p : Pos) : evS C Γ sub (.par ns es kt pt k2 pt2 p) ρ = parR ns (evTs C Γ ns es ρ) ρ := (rfl)
@[simp] theorem evS_put (n : Nm) (i v : E) (pt p : Pos) : evS C Γ sub (.put n i v pt p) ρ = putR (slotT ρ n.i) n.i (evE C Γ v ρ) (evE C Γ i ρ) ρ := by
  rcases slotT_eq ρ n.i with h | ⟨h, h2⟩
  · unfold evS
    rw [h]
    cases slotT ρ n.i with
    | none => rfl
    | some t =>
      cases t with
      | fd t kvs => cases t <;> rfl
      | _ => rfl
  · unfold evS
    rw [h, h2]; rfl
@[simp] theorem evS_app (n : Nm) (e : E) (p1 p2 p : Pos) : evS C Γ sub (.app n e p1 p2 p) ρ = appR (slotT ρ n.i) n.i (evE C Γ e ρ) ρ := by
  rcases slotT_eq ρ n.i with h | ⟨h, h2⟩
  · unfold evS
    rw [h]
    cases slotT ρ n.i with
    | none => rfl
    | some t => cases t <;> rfl
  · unfold evS
    rw [h, h2]; rfl
@[simp] theorem evS_exp (e : E) (p : Pos) : evS C Γ sub (.exp e p) ρ = expR (evE C Γ e ρ) ρ := (rfl)
@[simp] theorem evS_ret (e : E) (p : Pos) : evS C Γ sub (.ret e p) ρ = retR (evE C Γ e (frzO ρ)) := by
  rw [← frz_eq]; rfl
@[simp] theorem evS_ifs (c : E) (a b : List S) (p : Pos) : evS C Γ sub (.ifs c a b p) ρ = ifX (evE C Γ c ρ) (evSs C Γ sub a) (evSs C Γ sub b) ρ := (rfl)
@[simp] theorem evS_forr (t : Tg) (it : I) (b : List S) (p : Pos) : evS C Γ sub (.forr t it b p) ρ = forR t.bind (evSs C Γ sub b) (evI0 C Γ it ρ) ρ := (rfl)
@[simp] theorem evS_rse (c : Str) (e : E) (p0 p1 p : Pos) : evS C Γ sub (.rse c e p0 p1 p) ρ = rseR c (evE C Γ e ρ) := (rfl)
@[simp] theorem evS_tri (b : List S) (hs : List Hd) (p : Pos) : evS C Γ sub (.tri b hs p) ρ = triR sub hs (evSs C Γ sub b ρ) := by
  unfold evS triR
  cases evSs C Γ sub b ρ <;> rfl
@[simp] theorem evS_frz (is : List Nat) : evS C Γ sub (.frz is) ρ = .ok (.nx (Env.frzAt ρ is)) := (rfl)
end

/-! ### values -/
def idxR (k : Nat) : Option D → R DL
  | some d => .ok (d, lvlOf d k)
  | none => .fail
@[simp] theorem idxR_some (k : Nat) (d : D) : idxR k (some d) = .ok (d, lvlOf d k) := (rfl)
theorem ixN_pos {n : Nat} {i : Int} (h0 : 0 ≤ i) (h1 : i < n) : ixN n i = some i.toNat := by
  unfold ixN
  rw [if_pos h0, if_pos h1]
@[simp] theorem atI_zero {α : Type} (x : α) (xs : List α) : atI (x :: xs) 0 = some x := by
  unfold atI
  rw [ixN_pos (by decide) (by simp)]; rfl
theorem atI_cons {α : Type} (x : α) (xs : List α) {i : Int} (h : 0 ≤ i) : atI (x :: xs) (i + 1) = atI xs i := by
  unfold atI
  by_cases hi : i < xs.length
  · rw [ixN_pos h hi, ixN_pos (by omega) (by simp; omega), show (i + 1).toNat = i.toNat + 1 by omega]; rfl
  · unfold ixN
    rw [if_pos h, if_neg hi, if_pos (by omega), if_neg (by simp; omega)]; rfl
@[simp] theorem atI_one {α : Type} (x : α) (xs : List α) : atI (x :: xs) 1 = atI xs 0 := atI_cons x xs (i := 0) (by decide)
@[simp] theorem atI_two {α : Type} (x : α) (xs : List α) : atI (x :: xs) 2 = atI xs 1 := atI_cons x xs (i := 1) (by decide)
@[simp] theorem atI_three {α : Type} (x : α) (xs : List α) : atI (x :: xs) 3 = atI xs 2 := atI_cons x xs (i := 2) (by decide)
@[simp] theorem atI_four {α : Type} (x : α) (xs : List α) : atI (x :: xs) 4 = atI xs 3 := atI_cons x xs (i := 3) (by decide)
@[simp] theorem atI_five {α : Type} (x : α) (xs : List α) : atI (x :: xs) 5 = atI xs 4 := atI_cons x xs (i := 4) (by decide)
@[simp] theorem atI_snoc {α : Type} (x : α) (xs : List α) : atI (xs ++ [x]) (-1) = some x := atI_last xs x
@[simp] theorem s64_0 : small64 0 = true := by decide
@[simp] theorem s64_1 : small64 1 = true := by decide
@[simp] theorem s64_2 : small64 2 = true := by decide
@[simp] theorem s64_3 : small64 3 = true := by decide
@[simp] theorem s64_4 : small64 4 = true := by decide
@[simp] theorem s64_5 : small64 5 = true := by decide
@[simp] theorem s64_6 : small64 6 = true := by decide
@[simp] theorem s64_7 : small64 7 = true := by decide
@[simp] theorem s64_8 : small64 8 = true := by decide
@[simp] theorem s64_9 : small64 9 = true := by decide
@[simp] theorem s64_10 : small64 10 = true := by decide
@[simp] theorem s64_11 : small64 11 = true := by decide
@[simp] theorem s64_12 : small64 12 = true := by decide
@[simp] theorem s64_13 : small64 13 = true := by decide
@[simp] theorem s64_14 : small64 14 = true := by decide
@[simp] theorem s64_15 : small64 15 = true := by decide
@[simp] theorem s64_16 : small64 16 = true := by decide
@[simp] theorem s64_17 : small64 17 = true := by decide
@[simp] theorem s64_18 : small64 18 = true := by decide
@[simp] theorem s64_19 : small64 19 = true := by decide
@[simp] theorem s64_20 : small64 20 = true := by decide
@[simp] theorem s64_21 : small64 21 = true := by decide
@[simp] theorem s64_22 : small64 22 = true := by decide
@[simp] theorem s64_23 : small64 23 = true := by decide
@[simp] theorem s64_24 : small64 24 = true := by decide
@[simp] theorem s64_25 : small64 25 = true := by decide
@[simp] theorem s64_26 : small64 26 = true := by decide
@[simp] theorem s64_27 : small64 27 = true := by decide
@[simp] theorem s64_28 : small64 28 = true := by decide
@[simp] theorem s64_29 : small64 29 = true := by decide
@[simp] theorem s64_30 : small64 30 = true := by decide
@[simp] theorem s64_31 : small64 31 = true := by decide
@[simp] theorem s64_32 : small64 32 = true := by decide
@[simp] theorem s64_33 : small64 33 = true := by decide
@[simp] theorem s64_34 : small64 34 = true := by decide
@[simp] theorem s64_35 : small64 35 = true := by decide
@[simp] theorem s64_36 : small64 36 = true := by decide
@[simp] theorem s64_37 : small64 37 = true := by decide
@[simp] theorem s64_38 : small64 38 = true := by decide
@[simp] theorem s64_39 : small64 39 = true := by decide
@[simp] theorem s64_40 : small64 40 = true := by decide
@[simp] theorem s64_41 : small64 41 = true := by decide
@[simp] theorem s64_42 : small64 42 = true := by decide
@[simp] theorem s64_43 : small64 43 = true := by decide
@[simp] theorem s64_44 : small64 44 = true := by decide
@[simp] theorem s64_45 : small64 45 = true := by decide
@[simp] theorem s64_46 : small64 46 = true := by decide
@[simp] theorem s64_47 : small64 47 = true := by decide
@[simp] theorem s64_48 : small64 48 = true := by decide
@[simp] theorem s64_49 : small64 49 = true := by decide
@[simp] theorem s64_50 : small64 50 = true := by decide
@[simp] theorem s64_51 : small64 51 = true := by decide
@[simp] theorem s64_52 : small64 52 = true := by decide
@[simp] theorem s64_53 : small64 53 = true := by decide
@[simp] theorem s64_54 : small64 54 = true := by decide
@[simp] theorem s64_55 : small64 55 = true := by decide
@[simp] theorem s64_56 : small64 56 = true := by decide
@[simp] theorem s64_57 : small64 57 = true := by decide
@[simp] theorem s64_58 : small64 58 = true := by decide
@[simp] theorem s64_59 : small64 59 = true := by decide
@[simp] theorem s64_60 : small64 60 = true := by decide
@[simp] theorem s64_61 : small64 61 = true := by decide
@[simp] theorem s64_62 : small64 62 = true := by decide
@[simp] theorem s64_63 : small64 63 = true := by decide
@[simp] theorem s64_64 : small64 64 = true := by decide
@[simp] theorem s64_7919 : small64 7919 = true := by decide
@[simp] theorem s64_104729 : small64 104729 = true := by decide
@[simp] theorem s64_48271 : small64 48271 = true := by decide
@[simp] theorem s64_69621 : small64 69621 = true := by decide
@[simp] theorem s64_16807 : small64 16807 = true := by decide
@[simp] theorem s64_65535 : small64 65535 = true := by decide
@[simp] theorem s64_65536 : small64 65536 = true := by decide
@[simp] theorem s64_32768 : small64 32768 = true := by decide
@[simp] theorem s64_134217728 : small64 134217728 = true := by decide
@[simp] theorem s64_4294967296 : small64 4294967296 = true := by decide
@[simp] theorem s62_0 : small62 0 = true := by decide
@[simp] theorem s62_1 : small62 1 = true := by decide
@[simp] theorem s62_2 : small62 2 = true := by decide
@[simp] theorem s62_3 : small62 3 = true := by decide
@[simp] theorem s62_4 : small62 4 = true := by decide
@[simp] theorem s62_5 : small62 5 = true := by decide
@[simp] theorem s62_6 : small62 6 = true := by decide
@[simp] theorem s62_7 : small62 7 = true := by decide
@[simp] theorem s62_8 : small62 8 = true := by decide
@[simp] theorem s62_9 : small62 9 = true := by decide
@[simp] theorem s62_10 : small62 10 = true := by decide
@[simp] theorem s62_11 : small62 11 = true := by decide
@[simp] theorem s62_12 : small62 12 = true := by decide
@[simp] theorem s62_13 : small62 13 = true := by decide
@[simp] theorem s62_14 : small62 14 = true := by decide
@[simp] theorem s62_15 : small62 15 = true := by decide
@[simp] theorem s62_16 : small62 16 = true := by decide
@[simp] theorem s62_17 : small62 17 = true := by decide
@[simp] theorem s62_18 : small62 18 = true := by decide
@[simp] theorem s62_19 : small62 19 = true := by decide
@[simp] theorem s62_20 : small62 20 = true := by decide
@[simp] theorem s62_21 : small62 21 = true := by decide
@[simp] theorem s62_22 : small62 22 = true := by decide
@[simp] theorem s62_23 : small62 23 = true := by decide
@[simp] theorem s62_24 : small62 24 = true := by decide
@[simp] theorem s62_25 : small62 25 = true := by decide
@[simp] theorem s62_26 : small62 26 = true := by decide
@[simp] theorem s62_27 : small62 27 = true := by decide
@[simp] theorem s62_28 : small62 28 = true := by decide
@[simp] theorem s62_29 : small62 29 = true := by decide
@[simp] theorem s62_30 : small62 30 = true := by decide
@[simp] theorem s62_31 : small62 31 = true := by decide
@[simp] theorem s62_32 : small62 32 = true := by decide
@[simp] theorem s62_33 : small62 33 = true := by decide
@[simp] theorem s62_34 : small62 34 = true := by decide
@[simp] theorem s62_35 : small62 35 = true := by decide
@[simp] theorem s62_36 : small62 36 = true := by decide
@[simp] theorem s62_37 : small62 37 = true := by decide
@[simp] theorem s62_38 : small62 38 = true := by decide
@[simp] theorem s62_39 : small62 39 = true := by decide
@[simp] theorem s62_40 : small62 40 = true := by decide
@[simp] theorem s62_41 : small62 41 = true := by decide
@[simp] theorem s62_42 : small62 42 = true := by decide
@[simp] theorem s62_43 : small62 43 = true := by decide
@[simp] theorem s62_44 : small62 44 = true := by decide
@[simp] theorem s62_45 : small62 45 = true := by decide
@[simp] theorem s62_46 : small62 46 = true := by decide
@[simp] theorem s62_47 : small62 47 = true := by decide
@[simp] theorem s62_48 : small62 48 = true := by decide
@[simp] theorem s62_49 : small62 49 = true := by decide
@[simp] theorem s62_50 : small62 50 = true := by decide
@[simp] theorem s62_51 : small62 51 = true := by decide
@[simp] theorem s62_52 : small62 52 = true := by decide
@[simp] theorem s62_53 : small62 53 = true := by decide
@[simp] theorem s62_54 : small62 54 = true := by decide
@[simp] theorem s62_55 : small62 55 = true := by decide
@[simp] theorem s62_56 : small62 56 = true := by decide
@[simp] theorem s62_57 : small62 57 = true := by decide
@[simp] theorem s62_58 : small62 58 = true := by decide
@[simp] theorem s62_59 : small62 59 = true := by decide
@[simp] theorem s62_60 : small62 60 = true := by decide
@[simp] theorem s62_61 : small62 61 = true := by decide
@[simp] theorem s62_62 : small62 62 = true := by decide
@[simp] theorem s62_63 : small62 63 = true := by decide
@[simp] theorem s62_64 : small62 64 = true := by decide
@[simp] theorem s62_65535 : small62 65535 = true := by decide
@[simp] theorem s62_65536 : small62 65536 = true := by decide
section
variable {k l : Nat}
@[simp] theorem bin_add (i j : Int) : evBin .Add (.int i, k) (.int j, l) = .ok (.int (i + j), 0) := (rfl)
@[simp] theorem bin_sub (i j : Int) : evBin .Sub (.int i, k) (.int j, l) = .ok (.int (i - j), 0) := (rfl)
@[simp] theorem bin_addL (xs ys : List D) : evBin .Add (.lst xs, k) (.lst ys, l) = if xs.length + ys.length ≤ sizeLine then .ok (.lst (xs ++ ys), upL (max (pr k) (pr l))) else .fail := (rfl)
@[simp] theorem bin_addT (xs ys : List D) : evBin .Add (.tup xs, k) (.tup ys, l) = if xs.length + ys.length ≤ sizeLine then .ok (.tup (xs ++ ys), max k l) else .fail := (rfl)
@[simp] theorem bin_mul (i j : Int) : evBin .Mult (.int i, k) (.int j, l) = if (small64 i || small64 j) = true then .ok (.int (i * j), 0) else .fail := (rfl)
@[simp] theorem bin_fdiv (i j : Int) : evBin .FloorDiv (.int i, k) (.int j, l) = if (decide (0 < j) && decide (j < 1073741824)) = true then .ok (.int (i / j), 0) else .fail := (rfl)
@[simp] theorem bin_mod (i j : Int) : evBin .Mod (.int i, k) (.int j, l) = if decide (0 < j) = true then .ok (.int (i % j), 0) else .fail := (rfl)
@[simp] theorem bin_pow (i j : Int) : evBin .Pow (.int i, k) (.int j, l) = if (decide (0 ≤ j) && decide (j ≤ 1000000) && decide (i.natAbs < 2 ^ 64)) = true then .ok (.int (i ^ j.toNat), 0) else .fail := (rfl)
@[simp] theorem neg_int (i : Int) : evNeg (.int i, k) = .ok (.int (-i), 0) := (rfl)
@[simp] theorem cmp_lt (i j : Int) : cmpE .Lt (.int i, k) (.int j, l) = .ok (.bl (decide (i < j)), 0) := (rfl)
@[simp] theorem cmp_le (i j : Int) : cmpE .LtE (.int i, k) (.int j, l) = .ok (.bl (decide (i ≤ j)), 0) := (rfl)
@[simp] theorem cmp_gt (i j : Int) : cmpE .Gt (.int i, k) (.int j, l) = .ok (.bl (decide (j < i)), 0) := (rfl)
@[simp] theorem cmp_ge (i j : Int) : cmpE .GtE (.int i, k) (.int j, l) = .ok (.bl (decide (j ≤ i)), 0) := (rfl)
@[simp] theorem ecmp_lt (i j : Int) : evCmp .Lt (.int i, k) (.int j, l) = .ok (decide (i < j)) := (rfl)
@[simp] theorem ecmp_le (i j : Int) : evCmp .LtE (.int i, k) (.int j, l) = .ok (decide (i ≤ j)) := (rfl)
theorem dep_int (i : Int) : (D.int i).dep = 0 := by unfold D.dep; rfl
theorem dep_scal {d : D} (h : d.isScal = true) : d.dep = 0 := by cases d <;> first | (unfold D.dep; rfl) | cases h
theorem fits_scal {d : D} (h : d.isScal = true) : d.fits = true := by unfold D.fits; rw [dep_scal h]; rfl
theorem eqOk_scal : ∀ {x y : D}, x.isScal = true → y.isScal = true → eqOk x y = true := by
  intro x y hx hy
  have fx := fits_scal hx
  have fy := fits_scal hy
  cases x <;> cases hx <;> cases y <;> cases hy <;> simp [eqOk, elOk, fx, fy]
@[simp] theorem cmp_eq_int (i j : Int) : cmpE .Eq (.int i, k) (.int j, l) = .ok (.bl (decide (i = j)), 0) := by
  rw [cmpE_eq]
  show mkB (if eqOk (.int i) (.int j) then R.ok (deq (.int i) (.int j)) else .fail) = _
  rw [if_pos (eqOk_scal rfl rfl)]
  unfold deq
  rfl
@[simp] theorem cmp_ne_int (i j : Int) : cmpE .NotEq (.int i, k) (.int j, l) = .ok (.bl (decide (i ≠ j)), 0) := by
  rw [cmpE_eq]
  show mkB (if eqOk (.int i) (.int j) && !(D.int i).isDct then R.ok (!deq (.int i) (.int j)) else .fail) = _
  rw [eqOk_scal rfl rfl]
  unfold deq
  by_cases h : i = j <;> simp [h, D.isDct]
@[simp] theorem cmp_eq_str (i j : Str) : cmpE .Eq (.str i, k) (.str j, l) = .ok (.bl (decide (i = j)), 0) := by
  rw [cmpE_eq]
  show mkB (if eqOk (.str i) (.str j) then R.ok (deq (.str i) (.str j)) else .fail) = _
  rw [if_pos (eqOk_scal rfl rfl)]
  unfold deq
  rfl
@[simp] theorem cmp_ne_str (i j : Str) : cmpE .NotEq (.str i, k) (.str j, l) = .ok (.bl (decide (i ≠ j)), 0) := by
  rw [cmpE_eq]
  show mkB (if eqOk (.str i) (.str j) && !(D.str i).isDct then R.ok (!deq (.str i) (.str j)) else .fail) = _
  rw [eqOk_scal rfl rfl]
  unfold deq
  by_cases h : i = j <;> simp [h, D.isDct]
@[simp] theorem cmp_is (d : D) : cmpE .Is (d, k) (.non, l) = .ok (.bl d.isNon, 0) := (rfl)
@[simp] theorem cmp_isnot (d : D) : cmpE .IsNot (d, k) (.non, l) = .ok (.bl (!d.isNon), 0) := (rfl)
@[simp] theorem isNon_non : D.isNon .non = true := (rfl)
@[simp] theorem isNon_int (i : Int) : D.isNon (.int i) = false := (rfl)
@[simp] theorem isNon_str (i : Str) : D.isNon (.str i) = false := (rfl)
@[simp] theorem isNon_tup (i : List D) : D.isNon (.tup i) = false := (rfl)
@[simp] theorem isNon_lst (i : List D) : D.isNon (.lst i) = false := (rfl)
@[simp] theorem isNon_dct (t : Bool) (i : List (D × D)) : D.isNon (.dct t i) = false := (rfl)
@[simp] theorem tru_bl (b : Bool) : truD (.bl b, k) = .ok b := (rfl)
@[simp] theorem tru_int (b : Int) : truD (.int b, k) = .ok (b != 0) := (rfl)
@[simp] theorem tru_lst (b : List D) : truD (.lst b, k) = .ok (!b.isEmpty) := (rfl)
@[simp] theorem notB_bl (b : Bool) : notB (.bl b, k) = .ok (.bl (!b), 0) := (rfl)
@[simp] theorem idx_lst (xs : List D) (i : Int) : evIdx (.lst xs, k) (.int i, l) = idxR (pr k) (atI xs i) := by
  show (match atI xs i with | some d => R.ok (d, lvlOf d (pr k)) | none => .fail) = _
  cases atI xs i <;> rfl
@[simp] theorem idx_tup (xs : List D) (i : Int) : evIdx (.tup xs, k) (.int i, l) = idxR (pr k) (atI xs i) := by
  show (match atI xs i with | some d => R.ok (d, lvlOf d (pr k)) | none => .fail) = _
  cases atI xs i <;> rfl
@[simp] theorem idx_scr (xs : List Int) (i : Int) : evIdx (.scr xs, k) (.int i, l) = idxR 0 ((atI xs i).map D.int) := by
  show (match atI xs i with | some d => R.ok (D.int d, 0) | none => .fail) = _
  cases atI xs i <;> rfl
@[simp] theorem slc_lst (xs : List D) (lo hi : Option Int) : evSlc (.lst xs, k) lo hi = .ok (.lst (cutD xs lo hi), upL (pr k)) := (rfl)
@[simp] theorem slc_tup (xs : List D) (lo hi : Option Int) : evSlc (.tup xs, k) lo hi = .ok (.tup (cutD xs lo hi), k) := (rfl)
@[simp] theorem len_lst (xs : List D) : evBlt .len [(.lst xs, k)] = .ok (.int xs.length, 0) := (rfl)
@[simp] theorem len_tup (xs : List D) : evBlt .len [(.tup xs, k)] = .ok (.int xs.length, 0) := (rfl)
@[simp] theorem len_str {s : Str} (h : s.length ≤ sizeLine) : evBlt .len [(.str s, k)] = .ok (.int s.length, 0) := by
  show (if s.length ≤ sizeLine then R.ok (D.int s.length, 0) else .fail) = _
  rw [if_pos h]
@[simp] theorem len_scr (xs : List Int) : evBlt .len [(.scr xs, k)] = .ok (.int xs.length, 0) := (rfl)
@[simp] theorem abs_int (i : Int) : evBlt .abs [(.int i, k)] = .ok (.int (i.natAbs : Int), 0) := by
  show R.ok (D.int (if i < 0 then -i else i), 0) = _
  rw [show (if i < 0 then -i else i) = (i.natAbs : Int) by omega]
@[simp] theorem min_int (i j : Int) : evBlt .min [(.int i, k), (.int j, l)] = .ok (.int (min i j), 0) := by
  show R.ok (D.int (if j < i then j else i), 0) = _
  rw [show (if j < i then j else i) = min i j by omega]
@[simp] theorem max_int (i j : Int) : evBlt .max [(.int i, k), (.int j, l)] = .ok (.int (max i j), 0) := by
  show R.ok (D.int (if j > i then j else i), 0) = _
  rw [show (if j > i then j else i) = max i j by omega]
@[simp] theorem int_int (i : Int) : evBlt .int [(.int i, k)] = .ok (.int i, 0) := (rfl)
@[simp] theorem int_bl (b : Bool) : evBlt .int [(.bl b, k)] = .ok (.int (if b then 1 else 0), 0) := (rfl)
@[simp] theorem list_lst (xs : List D) : evBlt .list [(.lst xs, k)] = .ok (.lst xs, upL (pr k)) := (rfl)
@[simp] theorem list_tup (xs : List D) : evBlt .list [(.tup xs, k)] = .ok (.lst xs, upL (pr k)) := (rfl)
@[simp] theorem tuple_lst (xs : List D) : evBlt .tuple [(.lst xs, k)] = .ok (.tup xs, upL (pr k)) := (rfl)
@[simp] theorem tuple_tup (xs : List D) : evBlt .tuple [(.tup xs, k)] = .ok (.tup xs, k) := (rfl)
@[simp] theorem sum_ints (ns : List Int) : evBlt .sum [(.lst (ns.map .int), k)] = .ok (.int ns.sum, 0) := by
  show (match asInts (ns.map .int) with | some ns => R.ok (D.int ns.sum, 0) | _ => .fail) = _
  rw [asInts_map]
@[simp] theorem all_bls (ns : List Bool) : evBlt .all [(.lst (ns.map .bl), k)] = .ok (.bl (ns.all id), 0) := by
  show (match asBls (ns.map .bl) with | some ns => R.ok (D.bl (ns.all id), 0) | _ => .fail) = _
  rw [asBls_map]
@[simp] theorem any_bls (ns : List Bool) : evBlt .any [(.lst (ns.map .bl), k)] = .ok (.bl (ns.any id), 0) := by
  show (match asBls (ns.map .bl) with | some ns => R.ok (D.bl (ns.any id), 0) | _ => .fail) = _
  rw [asBls_map]
@[simp] theorem all_map {α : Type} (f : α → Bool) (xs : List α) : evBlt .all [(.lst (xs.map fun x => .bl (f x)), k)] = .ok (.bl (xs.all f), 0) := by
  have z := all_bls (k := k) (xs.map f)
  rw [List.map_map] at z
  rw [show (xs.map fun x => D.bl (f x)) = xs.map (D.bl ∘ f) from rfl, z, List.all_map]
  rfl
@[simp] theorem any_map {α : Type} (f : α → Bool) (xs : List α) : evBlt .any [(.lst (xs.map fun x => .bl (f x)), k)] = .ok (.bl (xs.any f), 0) := by
  have z := any_bls (k := k) (xs.map f)
  rw [List.map_map] at z
  rw [show (xs.map fun x => D.bl (f x)) = xs.map (D.bl ∘ f) from rfl, z, List.any_map]
  rfl
@[simp] theorem items_lst (xs : List D) : itemsOf (.lst xs, k) = .ok (xs.map fun d => (d, lvlOf d (pr k))) := (rfl)
@[simp] theorem items_tup (xs : List D) : itemsOf (.tup xs, k) = .ok (xs.map fun d => (d, lvlOf d (pr k))) := (rfl)
theorem items_str (s : Str) : itemsOf (.str s, k) = .ok (s.cps.toList.map fun c => (.str ⟨#[c]⟩, 0)) := (rfl)
@[simp] theorem upL_le_one (n : Nat) : upL (maxLv []) = 0 := (rfl)
@[simp] theorem maxLv_nil : maxLv [] = 0 := (rfl)
@[simp] theorem maxLv_cons (x : DL) (xs : List DL) : maxLv (x :: xs) = max x.2 (maxLv xs) := (rfl)
@[simp] theorem lvlOf_int (i : Int) (k : Nat) : lvlOf (.int i) k = 0 := (rfl)
@[simp] theorem lvlOf_bl (i : Bool) (k : Nat) : lvlOf (.bl i) k = 0 := (rfl)
@[simp] theorem lvlOf_str (i : Str) (k : Nat) : lvlOf (.str i) k = 0 := (rfl)
@[simp] theorem lvlOf_non (k : Nat) : lvlOf .non k = 0 := (rfl)
theorem maxLv_map0 {α : Type} (f : α → D) (xs : List α) : maxLv (xs.map fun x => (f x, 0)) = 0 := by
  induction xs with
  | nil => rfl
  | cons x xs ih => rw [List.map_cons, maxLv_cons, ih]; rfl
@[simp] theorem bind_nm (i : Nat) (x : Str) (p : Pos) (d : D) (k : Nat) (ρ : Env) : Tg.bind (.nm i x p) d k ρ = if i < ρ.length then some (ρ.set i (some (.bor d k))) else none := by
  rw [Tg.bind]
@[simp] theorem bind_tp (ts : List Tg) (n : Nat) (p : Pos) (ds : List D) (k : Nat) (ρ : Env) : Tg.bind (.tp ts n p) (.tup ds) k ρ = Tg.binds ts ds (pr k) ρ := by
  rw [Tg.bind]
def bindC (ts : List Tg) (ds : List D) (k : Nat) : Option Env → Option Env
  | some ρ => Tg.binds ts ds k ρ
  | none => none
@[simp] theorem bindC_some (ts : List Tg) (ds : List D) (k : Nat) (ρ : Env) : bindC ts ds k (some ρ) = Tg.binds ts ds k ρ := (rfl)
@[simp] theorem binds_nil (k : Nat) (ρ : Env) : Tg.binds [] [] k ρ = some ρ := by rw [Tg.binds]
@[simp] theorem binds_cons (t : Tg) (ts : List Tg) (d : D) (ds : List D) (k : Nat) (ρ : Env) : Tg.binds (t :: ts) (d :: ds) k ρ = bindC ts ds k (t.bind d (lvlOf d k) ρ) := by
  rw [Tg.binds]
  cases t.bind d (lvlOf d k) ρ <;> rfl
end
@[simp] theorem wipeE_nil (ρ : Env) : wipeE ρ [] = ρ := (rfl)
@[simp] theorem wipeE_cons (ρ : Env) (v : Nat) (vs : List Nat) : wipeE ρ (v :: vs) = (wipeE ρ vs).set v none := (rfl)
/-! ### calls -/
theorem callD_ok {Γ : Fns} {f : Nat} {xs : List DL} {d : D} (h : Γ f (xs.map (·.1)) = .ok d) : callD Γ f xs = .ok (d, lvlOf d (if maxLv xs = 0 then 0 else 1000)) := by
  unfold callD; rw [h]
theorem callD_exc {Γ : Fns} {f : Nat} {xs : List DL} {c : Str} {a : D} (h : Γ f (xs.map (·.1)) = .exc c a) (s : a.isScal = true) : callD Γ f xs = .exc c a := by
  unfold callD; rw [h]; simp [s]
def finR : R O → R D
  | .ok (.rt d) => .ok d
  | .ok (.nx _) => .ok .non
  | .exc c a => .exc c a
  | _ => .fail
@[simp] theorem finR_rt (d : D) : finR (.ok (.rt d)) = .ok d := (rfl)
@[simp] theorem finR_nx (ρ : Env) : finR (.ok (.nx ρ)) = .ok .non := (rfl)
@[simp] theorem finR_exc (c : Str) (a : D) : finR (.exc c a) = .exc c a := (rfl)
theorem run_eq (C : Nat → D) (sub : Str → Str → Option Bool) (Γ : Fns) (f : Df) (ds : List D) (h : ds.length = f.ps.length) : f.run C sub Γ ds = finR (evSs C Γ sub f.body (startE f.N ds)) := by
  unfold Df.run
  rw [if_pos h]
  cases evSs C Γ sub f.body (startE f.N ds) with
  | ok o => cases o <;> rfl
  | exc c a => rfl
  | fail => rfl
/-! ### lists -/
theorem lcLoop_map {α β : Type} {bind : D → Nat → Env → Option Env} {t : Env → R Bool} {f : Env → R α} {ρ : Env} (xs : List β) (enc : β → DL) (g : β → α) (pred : β → Bool)
    (h : ∀ x ∈ xs, ∃ ρ', bind (enc x).1 (enc x).2 ρ = some ρ' ∧ t ρ' = .ok (pred x) ∧ (pred x = true → f ρ' = .ok (g x))) :
    lcLoop bind t f ρ (xs.map enc) = .ok ((xs.filter pred).map g) := by
  induction xs with
  | nil => rfl
  | cons x xs ih =>
    obtain ⟨ρ', e1, e2, e3⟩ := h x (List.mem_cons_self ..)
    have ih := ih fun y hy => h y (List.mem_cons_of_mem _ hy)
    rw [List.map_cons]
    unfold lcLoop
    rw [e1]
    dsimp only
    rw [e2, ih]
    cases hp : pred x with
    | true => rw [List.filter_cons_of_pos hp, List.map_cons]; dsimp only; rw [e3 hp]
    | false => rw [List.filter_cons_of_neg (by simp [hp])]
def loopO (bind : D → Nat → Env → Option Env) (body : Env → R O) (xs : List DL) : R O → R O
  | .ok (.nx ρ) => forLoop bind body xs ρ
  | .ok (.ct ρ) => forLoop bind body xs ρ
  | .ok (.bk ρ) => .ok (.nx ρ)
  | .ok (.rt d) => .ok (.rt d)
  | .exc c a => .exc c a
  | .fail => .fail
@[simp] theorem loopO_nx (bind : D → Nat → Env → Option Env) (body : Env → R O) (xs : List DL) (ρ : Env) : loopO bind body xs (.ok (.nx ρ)) = forLoop bind body xs ρ := (rfl)
@[simp] theorem loopO_ct (bind : D → Nat → Env → Option Env) (body : Env → R O) (xs : List DL) (ρ : Env) : loopO bind body xs (.ok (.ct ρ)) = forLoop bind body xs ρ := (rfl)
@[simp] theorem loopO_bk (bind : D → Nat → Env → Option Env) (body : Env → R O) (xs : List DL) (ρ : Env) : loopO bind body xs (.ok (.bk ρ)) = .ok (.nx ρ) := (rfl)
@[simp] theorem loopO_rt (bind : D → Nat → Env → Option Env) (body : Env → R O) (xs : List DL) (d : D) : loopO bind body xs (.ok (.rt d)) = .ok (.rt d) := (rfl)
@[simp] theorem loopO_exc (bind : D → Nat → Env → Option Env) (body : Env → R O) (xs : List DL) (c : Str) (a : D) : loopO bind body xs (.exc c a) = .exc c a := (rfl)
def loopB (bind : D → Nat → Env → Option Env) (body : Env → R O) (xs : List DL) : Option Env → R O
  | some ρ => loopO bind body xs (body ρ)
  | none => .fail
@[simp] theorem loopB_some (bind : D → Nat → Env → Option Env) (body : Env → R O) (xs : List DL) (ρ : Env) : loopB bind body xs (some ρ) = loopO bind body xs (body ρ) := (rfl)
@[simp] theorem forLoop_nil (bind : D → Nat → Env → Option Env) (body : Env → R O) (ρ : Env) : forLoop bind body [] ρ = .ok (.nx ρ) := (rfl)
@[simp] theorem forLoop_cons (bind : D → Nat → Env → Option Env) (body : Env → R O) (x : DL) (xs : List DL) (ρ : Env) : forLoop bind body (x :: xs) ρ = loopB bind body xs (bind x.1 x.2 ρ) := by
  rw [forLoop]
  cases bind x.1 x.2 ρ with
  | none => rfl
  | some ρ' =>
    dsimp only [loopB]
    cases body ρ' with
    | ok o => cases o <;> rfl
    | exc c a => rfl
    | fail => rfl
@[simp] theorem enumI_nil (i : Nat) : enumI i [] = [] := (rfl)
@[simp] theorem enumI_cons (i : Nat) (x : DL) (xs : List DL) : enumI i (x :: xs) = (.tup [.int i, x.1], upL x.2) :: enumI (i + 1) xs := (rfl)
/-- a loop that goes through: what holds behind each turn -/
theorem forLoop_inv {bind : D → Nat → Env → Option Env} {body : Env → R O} (P : Nat → Env → Prop) : ∀ (xs : List DL) (i0 : Nat) (ρ : Env),
    (∀ i x ρ, xs[i]? = some x → P (i0 + i) ρ → ∃ ρ1 ρ2, bind x.1 x.2 ρ = some ρ1 ∧ (body ρ1 = .ok (.nx ρ2) ∨ body ρ1 = .ok (.ct ρ2)) ∧ P (i0 + i + 1) ρ2) → P i0 ρ →
    ∃ ρ', forLoop bind body xs ρ = .ok (.nx ρ') ∧ P (i0 + xs.length) ρ'
  | [], i0, ρ, _, h0 => ⟨ρ, rfl, h0⟩
  | x :: xs, i0, ρ, hs, h0 => by
    obtain ⟨ρ1, ρ2, e1, e2, h2⟩ := hs 0 x ρ rfl h0
    obtain ⟨ρ', e3, h3⟩ := forLoop_inv P xs (i0 + 1) ρ2 (fun i y σ hi hp => by
      have z := hs (i + 1) y σ (by rw [List.getElem?_cons_succ]; exact hi) (by rw [show i0 + (i + 1) = i0 + 1 + i by omega]; exact hp)
      rw [show i0 + (i + 1) = i0 + 1 + i by omega] at z
      exact z) h2
    refine ⟨ρ', ?_, by rw [List.length_cons, show i0 + (xs.length + 1) = i0 + 1 + xs.length by omega]; exact h3⟩
    rw [forLoop, e1]
    dsimp only
    rcases e2 with e2 | e2 <;> rw [e2] <;> exact e3
theorem rangeI_len (a : Int) (n : Nat) : (rangeI a n).length = n := by unfold rangeI; rw [List.length_map, List.length_range]
theorem rangeI_get {a : Int} {n i : Nat} {x : DL} (h : (rangeI a n)[i]? = some x) : i < n ∧ x = (.int (a + i), 0) := by
  unfold rangeI at h
  rw [List.getElem?_map] at h
  obtain ⟨j, e1, e2⟩ := Option.map_eq_some_iff.mp h
  obtain ⟨hi, e3⟩ := List.getElem?_eq_some_iff.mp e1
  rw [List.length_range] at hi
  rw [List.getElem_range] at e3
  subst e3
  exact ⟨hi, e2.symm⟩
theorem forLoop_range {bind : D → Nat → Env → Option Env} {body : Env → R O} (P : Nat → Env → Prop) {a : Int} {n : Nat} {ρ : Env}
    (hs : ∀ i ρ, i < n → P i ρ → ∃ ρ1 ρ2, bind (.int (a + i)) 0 ρ = some ρ1 ∧ (body ρ1 = .ok (.nx ρ2) ∨ body ρ1 = .ok (.ct ρ2)) ∧ P (i + 1) ρ2) (h0 : P 0 ρ) :
    ∃ ρ', forLoop bind body (rangeI a n) ρ = .ok (.nx ρ') ∧ P n ρ' := by
  obtain ⟨ρ', e, h⟩ := forLoop_inv P (rangeI a n) 0 ρ (fun i x σ hi hp => by
    obtain ⟨h1, rfl⟩ := rangeI_get hi
    rw [Nat.zero_add] at hp ⊢
    exact hs i σ h1 hp) h0
  rw [rangeI_len, Nat.zero_add] at h
  exact ⟨ρ', e, h⟩
theorem lcLoop_all {α β : Type} {bind : D → Nat → Env → Option Env} {t : Env → R Bool} {f : Env → R α} {ρ : Env} {xs : List β} {enc : β → DL} (g : β → α)
    (h : ∀ x ∈ xs, ∃ ρ', bind (enc x).1 (enc x).2 ρ = some ρ' ∧ t ρ' = .ok true ∧ f ρ' = .ok (g x)) : lcLoop bind t f ρ (xs.map enc) = .ok (xs.map g) := by
  have z := lcLoop_map xs enc g (fun _ => true) fun x hx => let ⟨ρ', a, b, c⟩ := h x hx; ⟨ρ', a, b, fun _ => c⟩
  rw [z, List.filter_eq_self.mpr fun _ _ => rfl]
@[simp] theorem zipI_map {α β : Type} (f : α → DL) (g : β → DL) : ∀ (xs : List α) (ys : List β), zipI (xs.map f) (ys.map g) = (xs.zip ys).map fun p => (.tup [(f p.1).1, (g p.2).1], upL (max (f p.1).2 (g p.2).2))
  | [], ys => by cases ys <;> rfl
  | x :: xs, [] => rfl
  | x :: xs, y :: ys => by
    rw [List.map_cons, List.map_cons, List.zip_cons_cons, List.map_cons, ← zipI_map f g xs ys]
    rfl
theorem cutD_tail (x : D) (xs : List D) : cutD (x :: xs) (some 1) none = xs := by
  unfold cutD HT.sIx
  simp
theorem maxLv_zero {xs : List DL} (h : ∀ x ∈ xs, x.2 = 0) : maxLv xs = 0 := by
  induction xs with
  | nil => rfl
  | cons x xs ih => rw [maxLv_cons, ih fun y hy => h y (List.mem_cons_of_mem _ hy), h x (List.mem_cons_self ..)]; rfl
@[simp] theorem mkLst_map {α : Type} (f : α → D) (xs : List α) (h : xs.length ≤ sizeLine) : mkLst (xs.map fun x => (f x, 0)) = .ok (.lst (xs.map f), 0) := by
  unfold mkLst
  rw [List.length_map, if_pos h, maxLv_map0, List.map_map]
  rfl
theorem atI_ge {α : Type} {xs : List α} {i : Int} (h0 : 0 ≤ i) (h1 : i < xs.length) : atI xs i = xs[i.toNat]? := by
  obtain ⟨n, rfl⟩ := Int.eq_ofNat_of_zero_le h0
  have hn : n < xs.length := by omega
  rw [show ((n : Int)).toNat = n from rfl]
  exact atI_nat (List.getElem?_eq_getElem hn) ▸ (List.getElem?_eq_getElem hn).symm
end Ev
set_option Elab.async false
set_option linter.all false
set_option maxRecDepth 100000
set_option maxHeartbeats 1000000
/-! Sv2: numbers drawn, shared by all laws. -/
namespace Ev
open PySem PySem.Spec PyProof.Rows L2
def iL (l : List Int) : D := .lst (l.map .int)
theorem iL_eq (l : List Int) : iL l = .lst (l.map .int) := rfl
def mixN (draws : List Int) (k many : Int) : Int :=
  let n : Int := draws.length
  let cell := if 0 < n then draws.getD (k % n).toNat 0 else 0
  if k < n then cell % many else ((cell * 7919 + k * 104729) / 3) % many
theorem mix_ge (draws : List Int) (k : Int) {many : Int} (h : 0 < many) : 0 ≤ mixN draws k many := by
  unfold mixN
  dsimp only
  split <;> exact Int.emod_nonneg _ (by omega)
theorem mix_lt (draws : List Int) (k : Int) {many : Int} (h : 0 < many) : mixN draws k many < many := by
  unfold mixN
  dsimp only
  split <;> exact Int.emod_lt_of_pos _ h
theorem atI_int {xs : List Int} {i : Int} (h0 : 0 ≤ i) (h1 : i < xs.length) : atI (xs.map D.int) i = some (.int (xs.getD i.toNat 0)) := by
  rw [atI_ge h0 (by simpa using h1)]
  have : i.toNat < xs.length := by omega
  simp [this]
def zz : Str := ""
def qq : Pos := ⟨0, 0, 0, 0⟩
def b_mix : List S := [
  .set ⟨3, zz, qq, false⟩ (.int 0 0 qq) qq,
  .ifs (.cmp .Gt (.blt .len zz [.var 0 zz qq] qq qq) (.int 0 0 qq) qq) [
    .set ⟨3, zz, qq, false⟩ (.sub (.var 0 zz qq) (.bin .Mod (.blt .int zz [.var 1 zz qq] qq qq) (.blt .len zz [.var 0 zz qq] qq qq) qq) qq) qq] [] qq,
  .ifs (.cmp .Lt (.var 1 zz qq) (.blt .len zz [.var 0 zz qq] qq qq) qq) [
    .ret (.bin .Mod (.blt .int zz [.var 3 zz qq] qq qq) (.var 2 zz qq) qq) qq] [] qq,
  .ret (.bin .Mod (.blt .int zz [.bin .FloorDiv (.blt .int zz [.bin .Add (.bin .Mult (.var 3 zz qq) (.int 7919 0 qq) qq) (.bin .Mult (.var 1 zz qq) (.int 104729 0 qq) qq) qq] qq qq) (.int 3 0 qq) qq] qq qq) (.var 2 zz qq) qq) qq]
section
variable (C : Nat → D) (Γ : Fns) (sub : Str → Str → Option Bool)
theorem run_mix (draws : List Int) (k : Int) {many : Int} (hm : 0 < many) : finR (evSs C Γ sub b_mix [some (.bor (iL draws) 0), some (.bor (.int k) 0), some (.bor (.int many) 0), none]) = .ok (.int (mixN draws k many)) := by
  by_cases h : 0 < draws.length
  · have h1 : 0 ≤ k % (draws.length : Int) := Int.emod_nonneg _ (by omega)
    have h2 : k % (draws.length : Int) < draws.length := Int.emod_lt_of_pos _ (by omega)
    by_cases h3 : k < draws.length
    · simp [b_mix, iL, h, atI_int h1 h2, h3, hm, mixN]
    · simp [b_mix, iL, h, atI_int h1 h2, h3, hm, mixN]
  · have h0 : draws = [] := by cases draws with | nil => rfl | cons a l => simp at h
    subst h0
    by_cases h3 : k < 0
    · simp [b_mix, iL, h3, hm, mixN]
    · simp [b_mix, iL, h3, hm, mixN]
def b_dr1 : List S := [
        .ifs (.cmp .Gt (.var 3 zz qq) (.int 0 0 qq) qq) [
          .app ⟨1, zz, qq, true⟩ (.bin .Mod (.blt .int zz [.var 3 zz qq] qq qq) (.int 65536 0 qq) qq) qq qq qq,
          .set ⟨3, zz, qq, false⟩ (.bin .FloorDiv (.var 3 zz qq) (.int 65536 0 qq) qq) qq] [] qq]
def b_dr2 : List S := [
    .set ⟨3, zz, qq, false⟩ (.blt .abs zz [.sub (.var 0 zz qq) (.var 2 zz qq) qq] qq qq) qq,
    .ifs (.cmp .GtE (.var 3 zz qq) (.bin .Pow (.int 10 0 qq) (.int 18 0 qq) qq) qq) [
      .forr (.nm 4 zz qq) (.rg1 (.int 60 0 qq) qq qq) b_dr1 qq] [
      .set ⟨5, zz, qq, false⟩ (.bin .Mod (.blt .int zz [.bin .Add (.bin .Mult (.var 3 zz qq) (.int 48271 0 qq) qq) (.bin .Mult (.bin .Add (.var 2 zz qq) (.int 1 0 qq) qq) (.int 69621 0 qq) qq) qq] qq qq) (.int 2147483647 0 qq) qq) qq,
      .set ⟨5, zz, qq, false⟩ (.bin .Mod (.blt .int zz [.bin .Add (.bin .Add (.bin .Mult (.var 5 zz qq) (.int 16807 0 qq) qq) (.bin .Mult (.int 11 0 qq) (.var 2 zz qq) qq) qq) (.int 5 0 qq) qq] qq qq) (.int 2147483629 0 qq) qq) qq,
      .app ⟨1, zz, qq, true⟩ (.bin .Mod (.blt .int zz [.var 5 zz qq] qq qq) (.int 65536 0 qq) qq) qq qq qq,
      .app ⟨1, zz, qq, true⟩ (.bin .Mod (.blt .int zz [.bin .FloorDiv (.var 5 zz qq) (.int 65536 0 qq) qq] qq qq) (.int 32768 0 qq) qq) qq qq qq] qq]
def b_draws : List S := [
  .set ⟨1, zz, qq, true⟩ (.lst [] qq) qq,
  .forr (.nm 2 zz qq) (.rg1 (.blt .min zz [.int 63 0 qq, .blt .len zz [.var 0 zz qq] qq qq] qq qq) qq qq) b_dr2 qq,
  .ret (.var 1 zz qq) qq]
/-- what is drawn -/
structure Drawn (ds : List Int) : Prop where
  len : ds.length ≤ 3780
  bd : ∀ d ∈ ds, 0 ≤ d ∧ d < 65536
/-- .. behind i numbers and n digits -/
def DrawI (scr : List Int) (i n : Nat) (s3 : Option T) (ρ : Env) : Prop :=
  ∃ (ds : List Int) (s2 s4 s5 : Option T), ρ = [some (.bor (.scr scr) 0), some (.fl (ds.map D.int)), s2, s3, s4, s5] ∧ ds.length ≤ 60 * i + n ∧ ∀ d ∈ ds, 0 ≤ d ∧ d < 65536
theorem mod_bd (x : Int) {m : Int} (h : 0 < m) : 0 ≤ x % m ∧ x % m < m := ⟨Int.emod_nonneg _ (by omega), Int.emod_lt_of_pos _ h⟩
theorem bd_snoc {ds : List Int} {x : Int} (h : ∀ d ∈ ds, 0 ≤ d ∧ d < 65536) (hx : 0 ≤ x ∧ x < 65536) : ∀ d ∈ ds ++ [x], 0 ≤ d ∧ d < 65536 := by
  intro d hd
  rcases List.mem_append.mp hd with h1 | h1
  · exact h d h1
  · rw [List.mem_singleton.mp h1]; exact hx
theorem draws1 (scr : List Int) (i : Nat) (hi : i ≤ 63) (ρ : Env) (r : Int) (h : DrawI scr i 0 (some (.bor (.int r) 0)) ρ) : ∃ ρ' s3, forLoop (Tg.bind (.nm 4 zz qq)) (evSs C Γ sub b_dr1) (rangeI 0 60) ρ = .ok (.nx ρ') ∧ DrawI scr i 60 s3 ρ' := by
  obtain ⟨ρ', e, x, h⟩ := forLoop_range (bind := Tg.bind (.nm 4 zz qq)) (a := 0) (n := 60) (body := evSs C Γ sub b_dr1) (P := fun t ρ => ∃ x : Int, DrawI scr i t (some (.bor (.int x) 0)) ρ) (ρ := ρ) (by
    rintro t ρ ht ⟨x, ds, s2, s4, s5, rfl, hl, hb⟩
    refine ⟨[some (.bor (.scr scr) 0), some (.fl (ds.map D.int)), s2, some (.bor (.int x) 0), some (.bor (.int (0 + t)) 0), s5], ?_⟩
    by_cases hx0 : 0 < x
    · refine ⟨[some (.bor (.scr scr) 0), some (.fl ((ds ++ [x % 65536]).map D.int)), stale1 s2, some (.bor (.int (x / 65536)) 0), some (.bor (.int (0 + t)) 0), stale1 s5], by simp, .inl ?_, _, _, _, _, _, rfl, ?_, bd_snoc hb ⟨by omega, by omega⟩⟩
      · have : ds.length < 1000000 := by omega
        simp [b_dr1, hx0, this]
      · rw [List.length_append, List.length_singleton]; omega
    · refine ⟨[some (.bor (.scr scr) 0), some (.fl (ds.map D.int)), s2, some (.bor (.int x) 0), some (.bor (.int (0 + t)) 0), s5], by simp, .inl (by simp [b_dr1, hx0]), _, _, _, _, _, rfl, by omega, hb⟩) ⟨r, h⟩
  exact ⟨ρ', _, e, h⟩
theorem draws2 (scr : List Int) (i : Nat) (hi : i < 63) (hs : i < scr.length) (s3 : Option T) (ρ : Env) (h : DrawI scr i 0 s3 ρ) : ∃ ρ1 ρ2 s3, Tg.bind (.nm 2 zz qq) (.int (0 + i)) 0 ρ = some ρ1 ∧ evSs C Γ sub b_dr2 ρ1 = .ok (.nx ρ2) ∧ DrawI scr (i + 1) 0 s3 ρ2 := by
  obtain ⟨ds, s2, s4, s5, rfl, hl, hb⟩ := h
  obtain ⟨v, hget⟩ : ∃ v, atI scr (i : Int) = some v := ⟨_, atI_nat (List.getElem?_eq_getElem hs)⟩
  by_cases hbig : 1000000000000000000 ≤ (v.natAbs : Int)
  · obtain ⟨ρ2, s3', e, h2⟩ := draws1 C Γ sub scr i (by omega) [some (.bor (.scr scr) 0), some (.fl (ds.map D.int)), some (.bor (.int i) 0), some (.bor (.int v.natAbs) 0), s4, s5] _ ⟨ds, _, _, _, rfl, hl, hb⟩
    refine ⟨[some (.bor (.scr scr) 0), some (.fl (ds.map D.int)), some (.bor (.int i) 0), s3, s4, s5], ρ2, s3', by simp, ?_, ?_⟩
    · simp [b_dr2, hget, hbig, rg1R, e]
    · obtain ⟨ds, s2, s4, s5, rfl, hl, hb⟩ := h2
      exact ⟨_, _, _, _, rfl, by omega, hb⟩
  · generalize h5 : (((v.natAbs : Int) * 48271 + (↑i + 1) * 69621) % 2147483647 * 16807 + 11 * ↑i + 5) % 2147483629 = x
    have m1 := mod_bd x (m := 65536) (by decide)
    have m2 := mod_bd (x / 65536) (m := 32768) (by decide)
    have h6 : ds.length < 1000000 := by clear h5; omega
    have h7 : ds.length + 1 < 1000000 := by clear h5; omega
    have e : evSs C Γ sub b_dr2 [some (.bor (.scr scr) 0), some (.fl (ds.map D.int)), some (.bor (.int i) 0), s3, s4, s5] = .ok (.nx [some (.bor (.scr scr) 0), some (.fl ((ds ++ [x % 65536] ++ [x / 65536 % 32768]).map D.int)), some (.bor (.int i) 0), some (.bor (.int v.natAbs) 0), stale1 (stale1 s4), some (.bor (.int x) 0)]) := by
      simp [b_dr2, hget, hbig, rg1R, h5, h6, h7]
    exact ⟨_, _, _, by simp, e, _, _, _, _, rfl, by clear h5; rw [List.length_append, List.length_append]; simp; omega, bd_snoc (bd_snoc hb m1) ⟨m2.1, by omega⟩⟩
theorem run_draws (scr : List Int) : ∃ ds : List Int, finR (evSs C Γ sub b_draws [some (.bor (.scr scr) 0), none, none, none, none, none]) = .ok (iL ds) ∧ Drawn ds := by
  have hmin : small62 (min 63 (scr.length : Int)) = true := by
    unfold small62
    simp
    omega
  generalize hn : (min 63 (scr.length : Int)).toNat = n
  obtain ⟨ρ', e, s3, ds, s2, s4, s5, rfl, hl, hb⟩ := forLoop_range (bind := Tg.bind (.nm 2 zz qq)) (a := 0) (n := n) (body := evSs C Γ sub b_dr2) (P := fun i ρ => ∃ s3, DrawI scr i 0 s3 ρ) (ρ := [some (.bor (.scr scr) 0), some (.fl []), none, none, none, none]) (by
    rintro i ρ hi ⟨s3, h⟩
    obtain ⟨ρ1, ρ2, s3', h1, h2, h3⟩ := draws2 C Γ sub scr i (by omega) (by omega) s3 ρ h
    exact ⟨ρ1, ρ2, h1, .inl h2, s3', h3⟩) ⟨_, [], _, _, _, rfl, by simp, by simp⟩
  refine ⟨ds, ?_, by omega, hb⟩
  simp [b_draws, ownL, rg1R, hmin, hn, e, iL]
end
end Ev
set_option Elab.async false
set_option linter.all false
set_option maxRecDepth 100000
set_option maxHeartbeats 1000000
/-! Sv3: equality of plain data. -/
namespace Ev
open PySem PySem.Spec PyProof.Rows L2
mutual
/-- plain data: None, ints, texts, tuples and lists of such -/
def D.pl : D → Bool
  | .non => true
  | .int _ => true
  | .str _ => true
  | .tup xs => D.pls xs
  | .lst xs => D.pls xs
  | _ => false
def D.pls : List D → Bool
  | [] => true
  | d :: ds => d.pl && D.pls ds
end
theorem bnd {a b : Bool} (h : (a && b) = true) : a = true ∧ b = true := by simpa using h
mutual
theorem deq_pl : ∀ (x y : D), x.pl = true → y.pl = true → (deq x y = true ↔ x = y)
  | .non, y, hx, hy => by cases y <;> simp [deq, D.pl] at hy ⊢
  | .int i, y, hx, hy => by cases y <;> simp [deq, D.pl] at hy ⊢
  | .str s, y, hx, hy => by cases y <;> simp [deq, D.pl] at hy ⊢
  | .tup xs, y, hx, hy => by
    cases y with
    | tup ys =>
      simp only [D.pl] at hx hy
      simp only [deq, D.tup.injEq]
      exact deqs_pl xs ys hx hy
    | _ => simp [deq, D.pl] at hy ⊢
  | .lst xs, y, hx, hy => by
    cases y with
    | lst ys =>
      simp only [D.pl] at hx hy
      simp only [deq, D.lst.injEq]
      exact deqs_pl xs ys hx hy
    | _ => simp [deq, D.pl] at hy ⊢
  | .bl _, _, hx, _ => by simp [D.pl] at hx
  | .dct _ _, _, hx, _ => by simp [D.pl] at hx
  | .obj _, _, hx, _ => by simp [D.pl] at hx
  | .scr _, _, hx, _ => by simp [D.pl] at hx
theorem deqs_pl : ∀ (xs ys : List D), D.pls xs = true → D.pls ys = true → (deqs xs ys = true ↔ xs = ys)
  | [], ys, hx, hy => by cases ys <;> simp [deqs]
  | x :: xs, [], hx, hy => by simp [deqs]
  | x :: xs, y :: ys, hx, hy => by
    simp only [D.pls] at hx hy
    have h1 := bnd hx
    have h2 := bnd hy
    simp only [deqs, Bool.and_eq_true, List.cons.injEq, deq_pl x y h1.1 h2.1, deqs_pl xs ys h1.2 h2.2]
end
theorem eqOk_fits {x y : D} (fx : x.fits = true) (fy : y.fits = true) (px : x.pl = true) : eqOk x y = true := by
  cases x <;> cases y <;> simp [eqOk, elOk, fx, fy, D.pl] at px ⊢
open Classical in
theorem cmp_eq_pl {x y : D} (px : x.pl = true) (py : y.pl = true) (fx : x.fits = true) (fy : y.fits = true) (k l : Nat) : cmpE .Eq (x, k) (y, l) = .ok (.bl (decide (x = y)), 0) := by
  rw [cmpE_eq]
  show mkB (if eqOk x y then R.ok (deq x y) else .fail) = _
  rw [if_pos (eqOk_fits fx fy px), mkB_ok]
  congr 3
  have := deq_pl x y px py
  by_cases h : x = y
  · rw [decide_eq_true h]; exact this.mpr h
  · rw [decide_eq_false h]
    cases e : deq x y with
    | true => exact absurd (this.mp e) h
    | false => rfl
theorem isDct_pl {x : D} (px : x.pl = true) : x.isDct = false := by cases x <;> first | rfl | simp [D.pl] at px
open Classical in
theorem cmp_ne_pl {x y : D} (px : x.pl = true) (py : y.pl = true) (fx : x.fits = true) (fy : y.fits = true) (k l : Nat) : cmpE .NotEq (x, k) (y, l) = .ok (.bl (!decide (x = y)), 0) := by
  rw [cmpE_eq]
  show mkB (if eqOk x y && !x.isDct then R.ok (!deq x y) else .fail) = _
  rw [eqOk_fits fx fy px, isDct_pl px]
  show R.ok (D.bl (!deq x y), 0) = _
  congr 3
  have := deq_pl x y px py
  by_cases h : x = y
  · rw [decide_eq_true h, this.mpr h]
  · rw [decide_eq_false h]
    cases e : deq x y with
    | true => exact absurd (this.mp e) h
    | false => rfl
theorem pls_map {α : Type} (f : α → D) {xs : List α} (h : ∀ x ∈ xs, (f x).pl = true) : D.pls (xs.map f) = true := by
  induction xs with
  | nil => rfl
  | cons x xs ih =>
    rw [List.map_cons]
    unfold D.pls
    rw [h x (List.mem_cons_self ..), ih fun y hy => h y (List.mem_cons_of_mem _ hy)]; rfl
theorem deps_map {α : Type} (f : α → D) {xs : List α} {n : Nat} (h : ∀ x ∈ xs, (f x).dep ≤ n) : D.deps (xs.map f) ≤ n := by
  induction xs with
  | nil => simp [D.deps]
  | cons x xs ih =>
    rw [List.map_cons]
    unfold D.deps
    have h1 := h x (List.mem_cons_self ..)
    have h2 := ih fun y hy => h y (List.mem_cons_of_mem _ hy)
    omega
theorem iL_pl (xs : List Int) : (iL xs).pl = true := by
  unfold iL D.pl
  exact pls_map _ fun x _ => rfl
theorem iL_dep (xs : List Int) : (iL xs).dep ≤ 1 := by
  unfold iL D.dep
  have := deps_map D.int (xs := xs) (n := 0) fun x _ => by simp [D.dep]
  omega
theorem fits_of {d : D} {n : Nat} (h : d.dep ≤ n) (hn : n ≤ 40) : d.fits = true := by
  unfold D.fits
  exact decide_eq_true (by omega)
theorem map_inj {α β : Type} {f : α → β} (hf : ∀ a b, f a = f b → a = b) : ∀ {xs ys : List α}, xs.map f = ys.map f → xs = ys
  | [], [], _ => rfl
  | [], _ :: _, h => by cases h
  | _ :: _, [], h => by cases h
  | x :: xs, y :: ys, h => by
    rw [List.map_cons, List.map_cons, List.cons.injEq] at h
    rw [hf _ _ h.1, map_inj hf h.2]
theorem iL_inj {xs ys : List Int} : (iL xs = iL ys) ↔ xs = ys := by
  constructor
  · intro h
    have h : xs.map D.int = ys.map D.int := D.lst.inj h
    exact map_inj (fun a b e => D.int.inj e) h
  · rintro rfl; rfl
theorem cmp_eq_iL (xs ys : List Int) (k l : Nat) : cmpE .Eq (iL xs, k) (iL ys, l) = .ok (.bl (decide (xs = ys)), 0) := by
  rw [cmp_eq_pl (iL_pl _) (iL_pl _) (fits_of (iL_dep _) (by decide)) (fits_of (iL_dep _) (by decide))]
  congr 3
  exact decide_eq_decide.mpr iL_inj
theorem cmp_ne_iL (xs ys : List Int) (k l : Nat) : cmpE .NotEq (iL xs, k) (iL ys, l) = .ok (.bl (!decide (xs = ys)), 0) := by
  rw [cmp_ne_pl (iL_pl _) (iL_pl _) (fits_of (iL_dep _) (by decide)) (fits_of (iL_dep _) (by decide))]
  congr 4
  exact decide_eq_decide.mpr iL_inj
theorem rangeI_zero (a : Int) : rangeI a 0 = [] := rfl
theorem rangeI_succ (a : Int) (n : Nat) : rangeI a (n + 1) = (.int a, 0) :: rangeI (a + 1) n := by
  unfold rangeI
  rw [List.range_succ_eq_map, List.map_cons, List.map_map]
  congr 1
  · simp
  · apply List.map_congr_left
    intro i _
    simp
    omega
/-- a dict from ints -/
def dI (kvs : List (Int × D)) : List (D × D) := kvs.map fun p => (.int p.1, p.2)
def dpI (kvs : List (Int × D)) (y : Int) (d : D) : List (Int × D) := if kvs.any (fun p => decide (p.1 = y)) then kvs.map fun p => if p.1 = y then (p.1, d) else p else kvs ++ [(y, d)]
theorem keyEq_int (i j : Int) : keyEq (.int i) (.int j) = decide (i = j) := by simp [keyEq]
theorem dget_dI (kvs : List (Int × D)) (y : Int) : dget (.int y) (dI kvs) = (kvs.find? fun p => decide (p.1 = y)).map (·.2) := by
  induction kvs with
  | nil => rfl
  | cons p kvs ih =>
    show (if keyEq (.int p.1) (.int y) then some p.2 else dget (.int y) (dI kvs)) = _
    rw [keyEq_int, ih, List.find?_cons]
    by_cases h : p.1 = y <;> simp [h]
theorem dput_dI (kvs : List (Int × D)) (y : Int) (d : D) : dput (dI kvs) (.int y) d = dI (dpI kvs y d) := by
  unfold dput dpI
  rw [dget_dI]
  have e : ((kvs.find? fun p => decide (p.1 = y)).map (·.2)).isSome = kvs.any fun p => decide (p.1 = y) := by
    rw [Option.isSome_map, List.isSome_find?]
  rw [e]
  split
  · unfold dI
    rw [List.map_map, List.map_map]
    apply List.map_congr_left
    intro p _
    simp only [Function.comp_apply, keyEq_int]
    by_cases h : p.1 = y <;> simp [h]
  · unfold dI
    rw [List.map_append]; rfl
theorem dpI_new {kvs : List (Int × D)} {y : Int} (h : ∀ p ∈ kvs, p.1 ≠ y) (d : D) : dpI kvs y d = kvs ++ [(y, d)] := by
  unfold dpI
  rw [if_neg]
  intro q
  obtain ⟨p, hp, e⟩ := List.any_eq_true.mp q
  exact h p hp (of_decide_eq_true e)
end Ev
set_option Elab.async false
set_option linter.all false
set_option maxRecDepth 100000
set_option maxHeartbeats 4000000
namespace Ev.K51
open PySem PySem.Spec PyProof.Rows L2
abbrev z : Str := zz
abbrev q : Pos := qq
def sc0 : Scope := ⟨.function, [], false, false, []⟩
def PW : Program := PySem.Challenge.pw_coresagree_k51_whole_images_changed_at_e
def stOf (x : Str) : Stmt := (PW.main.body.find? fun s => match s with
  | .FunctionDef (name := n) .. => decide (n = x)
  | _ => false).getD (.Pass q)
def cs : List Str := ["REGISTERS", "WORDS", "CELLS", "SHAPES", "SORTS", "WHOLE", "HIGH", "EIGHTH", "MARK"]
def fs : List Str := ["bound_of", "is_instruction", "check_program", "written", "guess_of", "instruction_of", "image", "code_in", "data_in", "count_at", "read_image", "_law_draws", "_law_mix", "_law_shapes", "_law_written", "_law_one", "_law_read", "_law_told", "_law_code", "_law_summed", "_law_refused", "law"]
def xs : List Str := ["MachineError", "BadCode", "BadData", "BadImage"]
def cn (n : Nat) : Str := cs.getD n "REGISTERS"
def fn (n : Nat) : Str := fs.getD n "law"
def xn (c : Str) : Bool := xs.contains c
def b_bound_of : List S := [
  .ifs (.cmp .In (.var 0 z q) (.str "da" 0 q) q) [
    .ret (.cst 0 z q) q] [] q,
  .ret (.ife (.cmp .Eq (.var 0 z q) (.str "n" 0 q) q) (.cst 1 z q) (.bin .Add (.var 1 z q) (.int 1 0 q) q) q) q]
def d_bound_of : Df := ⟨"bound_of", "bound_of", stOf "bound_of", ["shape", "many"], ["shape", "many"], b_bound_of⟩
theorem s_bound_of : statB cn fn xn ⟨d_bound_of.N, cs, fs, [], []⟩ d_bound_of = true := by decide +kernel
def C1_is_instruction : E := .chn .LtE .Lt (.int 0 0 q) (.var 3 z q) (.call 0 z [.var 4 z q, .var 1 z q] q q) q
def b_is_instruction : List S := [
  .set ⟨2, z, q, false⟩ (.mth .get z (.cst 3 z q) [.sub (.var 0 z q) (.int 0 0 q) q] q q) q,
  .ifs (.or [.cmp .Is (.var 2 z q) (.non 0 q) q, .cmp .NotEq (.blt .len z [.var 2 z q] q q) (.bin .Sub (.blt .len z [.var 0 z q] q q) (.int 1 0 q) q) q] q) [
    .ret (.bl false 0 q) q] [] q,
  .ret (.blt .all z [.lc C1_is_instruction (.tp [.nm 3 z q, .nm 4 z q] 0 q) (.zip (.slc (.var 0 z q) (some (.int 1 0 q)) none q q) (.var 2 z q) q q) [] sc0 [(z, 3), (z, 4)] q] q q) q]
def d_is_instruction : Df := ⟨"is_instruction", "is_instruction", stOf "is_instruction", ["told", "many", "shape", "part", "one"], ["told", "many"], b_is_instruction⟩
theorem s_is_instruction : statB cn fn xn ⟨d_is_instruction.N, cs, fs, [], []⟩ d_is_instruction = true := by decide +kernel
def L1_check_program : List S := [
  .ifs (.not (.call 1 z [.var 2 z q, .blt .len z [.var 0 z q] q q] q q) q) [
    .rse "BadCode" (.var 1 z q) q q q] [] q]
def b_check_program : List S := [
  .forr (.tp [.nm 1 z q, .nm 2 z q] 0 q) (.enu (.var 0 z q) q q) L1_check_program q]
def d_check_program : Df := ⟨"check_program", "check_program", stOf "check_program", ["code", "k", "one"], ["code"], b_check_program⟩
theorem s_check_program : statB cn fn xn ⟨d_check_program.N, cs, fs, [], []⟩ d_check_program = true := by decide +kernel
def L1_written : List S := [
  .ifs (.cmp .In (.var 4 z q) (.str "da" 0 q) q) [
    .set ⟨2, z, q, false⟩ (.bin .FloorDiv (.var 2 z q) (.cst 7 z q) q) q,
    .set ⟨1, z, q, false⟩ (.bin .Add (.var 1 z q) (.bin .Mult (.var 3 z q) (.var 2 z q) q) q) q] [
    .set ⟨1, z, q, false⟩ (.bin .Add (.var 1 z q) (.var 3 z q) q) q] q]
def b_written : List S := [
  .set ⟨1, z, q, false⟩ (.bin .Mult (.cix 4 z (.sub (.var 0 z q) (.int 0 0 q) q) q q q) (.cst 6 z q) q) q,
  .set ⟨2, z, q, false⟩ (.cst 6 z q) q,
  .forr (.tp [.nm 3 z q, .nm 4 z q] 0 q) (.zip (.slc (.var 0 z q) (some (.int 1 0 q)) none q q) (.sub (.cst 3 z q) (.sub (.var 0 z q) (.int 0 0 q) q) q) q q) L1_written q,
  .ret (.var 1 z q) q]
def d_written : Df := ⟨"written", "written", stOf "written", ["one", "found", "weight", "part", "shape"], ["one"], b_written⟩
theorem s_written : statB cn fn xn ⟨d_written.N, cs, fs, [], []⟩ d_written = true := by decide +kernel
def L1_guess_of : List S := [
  .ifs (.cmp .In (.var 4 z q) (.str "da" 0 q) q) [
    .set ⟨3, z, q, false⟩ (.bin .FloorDiv (.var 3 z q) (.cst 7 z q) q) q,
    .app ⟨2, z, q, true⟩ (.bin .Mod (.bin .FloorDiv (.var 0 z q) (.var 3 z q) q) (.cst 7 z q) q) q q q] [
    .app ⟨2, z, q, true⟩ (.bin .Mod (.var 0 z q) (.cst 1 z q) q) q q q] q]
def b_guess_of : List S := [
  .set ⟨1, z, q, false⟩ (.bin .FloorDiv (.var 0 z q) (.cst 6 z q) q) q,
  .ifs (.not (.chn .LtE .Lt (.int 0 0 q) (.var 1 z q) (.blt .len z [.cst 4 z q] q q) q) q) [
    .ret (.non 0 q) q] [] q,
  .set ⟨2, z, q, true⟩ (.lst [] q) q,
  .set ⟨3, z, q, false⟩ (.cst 6 z q) q,
  .forr (.nm 4 z q) (.ex (.sub (.cst 3 z q) (.sub (.cst 4 z q) (.var 1 z q) q) q)) L1_guess_of q,
  .ret (.tup [(none, .sub (.cst 4 z q) (.var 1 z q) q), (some q, .var 2 z q)] 0 q) q]
def d_guess_of : Df := ⟨"guess_of", "guess_of", stOf "guess_of", ["number", "sort", "parts", "weight", "shape"], ["number"], b_guess_of⟩
theorem s_guess_of : statB cn fn xn ⟨d_guess_of.N, cs, fs, ["parts"], []⟩ d_guess_of = true := by decide +kernel
def b_instruction_of : List S := [
  .set ⟨2, z, q, false⟩ (.call 4 z [.var 0 z q] q q) q,
  .ret (.ife (.and [.cmp .IsNot (.var 2 z q) (.non 0 q) q, .call 1 z [.var 2 z q, .var 1 z q] q q, .cmp .Eq (.call 3 z [.var 2 z q] q q) (.var 0 z q) q] q) (.var 2 z q) (.non 0 q) q) q]
def d_instruction_of : Df := ⟨"instruction_of", "instruction_of", stOf "instruction_of", ["number", "many", "told"], ["number", "many"], b_instruction_of⟩
theorem s_instruction_of : statB cn fn xn ⟨d_instruction_of.N, cs, fs, [], []⟩ d_instruction_of = true := by decide +kernel
def L1_image : List S := [
  .ifs (.or [.not (.chn .LtE .Lt (.int 0 0 q) (.var 3 z q) (.cst 2 z q) q) q, .not (.chn .LtE .Lt (.int 0 0 q) (.sub (.var 1 z q) (.var 3 z q) q) (.cst 1 z q) q) q] q) [
    .rse "BadData" (.var 2 z q) q q q] [] q]
def C2_image : E := .bin .Add (.bin .Mult (.var 3 z q) (.cst 1 z q) q) (.sub (.var 1 z q) (.var 3 z q) q) q
def C3_image : E := .call 3 z [.var 6 z q] q q
def b_image : List S := [
  .exp (.call 2 z [.var 0 z q] q q) q,
  .forr (.tp [.nm 2 z q, .nm 3 z q] 0 q) (.enu (.blt .sorted z [.var 1 z q] q q) q q) L1_image q,
  .set ⟨4, z, q, false⟩ (.lc C2_image (.nm 3 z q) (.ex (.blt .sorted z [.var 1 z q] q q)) [] sc0 [(z, 3)] q) q,
  .set ⟨5, z, q, false⟩ (.lst [(none, .cst 8 z q), (none, .blt .len z [.var 0 z q] q q), (some q, .lc C3_image (.nm 6 z q) (.ex (.var 0 z q)) [] sc0 [(z, 6)] q), (none, .blt .len z [.var 4 z q] q q), (some q, .var 4 z q)] q) q,
  .ret (.lst [(some q, .var 5 z q), (none, .bin .Mod (.blt .sum z [.var 5 z q] q q) (.cst 5 z q) q)] q) q]
def d_image : Df := ⟨"image", "image", stOf "image", ["code", "data", "k", "address", "rows", "found", "one"], ["code", "data"], b_image⟩
theorem s_image : statB cn fn xn ⟨d_image.N, cs, fs, [], []⟩ d_image = true := by decide +kernel
def L1_code_in : List S := [
  .set ⟨4, z, q, false⟩ (.ife (.cmp .Lt (.var 3 z q) (.blt .len z [.var 0 z q] q q) q) (.call 5 z [.sub (.var 0 z q) (.var 3 z q) q, .var 1 z q] q q) (.non 0 q) q) q,
  .ifs (.cmp .Is (.var 4 z q) (.non 0 q) q) [
    .ret (.tup [(none, .non 0 q), (none, .blt .min z [.var 3 z q, .blt .len z [.var 0 z q] q q] q q)] 0 q) q] [] q,
  .app ⟨2, z, q, true⟩ (.var 4 z q) q q q]
def b_code_in : List S := [
  .set ⟨2, z, q, true⟩ (.lst [] q) q,
  .forr (.nm 3 z q) (.rg2 (.int 2 0 q) (.bin .Add (.int 2 0 q) (.var 1 z q) q) q q) L1_code_in q,
  .ret (.tup [(none, .var 2 z q), (none, .int 0 0 q)] 0 q) q]
def d_code_in : Df := ⟨"code_in", "code_in", stOf "code_in", ["numbers", "many", "code", "k", "one"], ["numbers", "many"], b_code_in⟩
theorem s_code_in : statB cn fn xn ⟨d_code_in.N, cs, fs, ["code"], []⟩ d_code_in = true := by decide +kernel
def L1_data_in : List S := [
  .ifs (.or [.cmp .GtE (.var 5 z q) (.blt .len z [.var 0 z q] q q) q, .not (.chn .Lt .Lt (.var 4 z q) (.bin .FloorDiv (.sub (.var 0 z q) (.var 5 z q) q) (.cst 1 z q) q) (.cst 2 z q) q) q] q) [
    .ret (.tup [(none, .non 0 q), (none, .blt .min z [.var 5 z q, .blt .len z [.var 0 z q] q q] q q)] 0 q) q] [] q,
  .set ⟨4, z, q, false⟩ (.bin .FloorDiv (.sub (.var 0 z q) (.var 5 z q) q) (.cst 1 z q) q) q,
  .put ⟨3, z, q, true⟩ (.var 4 z q) (.bin .Mod (.sub (.var 0 z q) (.var 5 z q) q) (.cst 1 z q) q) q q]
def b_data_in : List S := [
  .set ⟨3, z, q, true⟩ (.dic0 false q) q,
  .set ⟨4, z, q, false⟩ (.neg (.int 1 0 q) q) q,
  .forr (.nm 5 z q) (.rg2 (.var 1 z q) (.bin .Add (.var 1 z q) (.var 2 z q) q) q q) L1_data_in q,
  .ret (.tup [(none, .var 3 z q), (none, .int 0 0 q)] 0 q) q]
def d_data_in : Df := ⟨"data_in", "data_in", stOf "data_in", ["numbers", "start", "many", "data", "before", "k"], ["numbers", "start", "many"], b_data_in⟩
theorem s_data_in : statB cn fn xn ⟨d_data_in.N, cs, fs, ["data"], []⟩ d_data_in = true := by decide +kernel
def b_count_at : List S := [
  .ret (.ife (.and [.cmp .Lt (.var 1 z q) (.blt .len z [.var 0 z q] q q) q, .chn .LtE .LtE (.int 0 0 q) (.sub (.var 0 z q) (.var 1 z q) q) (.var 2 z q) q] q) (.sub (.var 0 z q) (.var 1 z q) q) (.non 0 q) q) q]
def d_count_at : Df := ⟨"count_at", "count_at", stOf "count_at", ["numbers", "k", "most"], ["numbers", "k", "most"], b_count_at⟩
theorem s_count_at : statB cn fn xn ⟨d_count_at.N, cs, fs, [], []⟩ d_count_at = true := by decide +kernel
def b_read_image : List S := [
  .ifs (.or [.cmp .Eq (.blt .len z [.var 0 z q] q q) (.int 0 0 q) q, .cmp .NotEq (.sub (.var 0 z q) (.int 0 0 q) q) (.cst 8 z q) q] q) [
    .rse "BadImage" (.int 0 0 q) q q q] [] q,
  .set ⟨1, z, q, false⟩ (.call 9 z [.var 0 z q, .int 1 0 q, .bin .Sub (.cst 1 z q) (.int 1 0 q) q] q q) q,
  .ifs (.cmp .Is (.var 1 z q) (.non 0 q) q) [
    .rse "BadImage" (.int 1 0 q) q q q] [] q,
  .unp (.tp [.nm 2 z q, .nm 3 z q] 0 q) (.call 7 z [.var 0 z q, .var 1 z q] q q) q,
  .ifs (.cmp .Is (.var 2 z q) (.non 0 q) q) [
    .rse "BadImage" (.var 3 z q) q q q] [] q,
  .set ⟨4, z, q, false⟩ (.call 9 z [.var 0 z q, .bin .Add (.int 2 0 q) (.var 1 z q) q, .cst 2 z q] q q) q,
  .ifs (.cmp .Is (.var 4 z q) (.non 0 q) q) [
    .rse "BadImage" (.bin .Add (.int 2 0 q) (.var 1 z q) q) q q q] [] q,
  .unp (.tp [.nm 5 z q, .nm 3 z q] 0 q) (.call 8 z [.var 0 z q, .bin .Add (.int 3 0 q) (.var 1 z q) q, .var 4 z q] q q) q,
  .ifs (.cmp .Is (.var 5 z q) (.non 0 q) q) [
    .rse "BadImage" (.var 3 z q) q q q] [] q,
  .set ⟨6, z, q, false⟩ (.bin .Add (.bin .Add (.int 3 0 q) (.var 1 z q) q) (.var 4 z q) q) q,
  .ifs (.cmp .NotEq (.blt .len z [.var 0 z q] q q) (.bin .Add (.var 6 z q) (.int 1 0 q) q) q) [
    .rse "BadImage" (.blt .min z [.bin .Add (.var 6 z q) (.int 1 0 q) q, .blt .len z [.var 0 z q] q q] q q) q q q] [] q,
  .ifs (.cmp .NotEq (.sub (.var 0 z q) (.var 6 z q) q) (.bin .Mod (.blt .sum z [.slc (.var 0 z q) none (some (.var 6 z q)) q q] q q) (.cst 5 z q) q) q) [
    .rse "BadImage" (.var 6 z q) q q q] [] q,
  .ret (.tup [(none, .var 2 z q), (none, .var 5 z q)] 0 q) q]
def d_read_image : Df := ⟨"read_image", "read_image", stOf "read_image", ["numbers", "many", "code", "k", "words", "data", "end"], ["numbers"], b_read_image⟩
theorem s_read_image : statB cn fn xn ⟨d_read_image.N, cs, fs, [], []⟩ d_read_image = true := by decide +kernel
def L2__law_draws : List S := [
  .ifs (.cmp .Gt (.var 3 z q) (.int 0 0 q) q) [
    .app ⟨1, z, q, true⟩ (.bin .Mod (.blt .int z [.var 3 z q] q q) (.int 65536 0 q) q) q q q,
    .set ⟨3, z, q, false⟩ (.bin .FloorDiv (.var 3 z q) (.int 65536 0 q) q) q] [] q]
def L1__law_draws : List S := [
  .set ⟨3, z, q, false⟩ (.blt .abs z [.sub (.var 0 z q) (.var 2 z q) q] q q) q,
  .ifs (.cmp .GtE (.var 3 z q) (.bin .Pow (.int 10 0 q) (.int 18 0 q) q) q) [
    .forr (.nm 4 z q) (.rg1 (.int 60 0 q) q q) L2__law_draws q] [
    .set ⟨5, z, q, false⟩ (.bin .Mod (.blt .int z [.bin .Add (.bin .Mult (.var 3 z q) (.int 48271 0 q) q) (.bin .Mult (.bin .Add (.var 2 z q) (.int 1 0 q) q) (.int 69621 0 q) q) q] q q) (.int 2147483647 0 q) q) q,
    .set ⟨5, z, q, false⟩ (.bin .Mod (.blt .int z [.bin .Add (.bin .Add (.bin .Mult (.var 5 z q) (.int 16807 0 q) q) (.bin .Mult (.int 11 0 q) (.var 2 z q) q) q) (.int 5 0 q) q] q q) (.int 2147483629 0 q) q) q,
    .app ⟨1, z, q, true⟩ (.bin .Mod (.blt .int z [.var 5 z q] q q) (.int 65536 0 q) q) q q q,
    .app ⟨1, z, q, true⟩ (.bin .Mod (.blt .int z [.bin .FloorDiv (.var 5 z q) (.int 65536 0 q) q] q q) (.int 32768 0 q) q) q q q] q]
def b__law_draws : List S := [
  .set ⟨1, z, q, true⟩ (.lst [] q) q,
  .forr (.nm 2 z q) (.rg1 (.blt .min z [.int 63 0 q, .blt .len z [.var 0 z q] q q] q q) q q) L1__law_draws q,
  .ret (.var 1 z q) q]
def d__law_draws : Df := ⟨"_law_draws", "_law_draws", stOf "_law_draws", ["script", "draws", "k", "rest", "turn", "stirred"], ["script"], b__law_draws⟩
theorem s__law_draws : statB cn fn xn ⟨d__law_draws.N, cs, fs, ["draws"], []⟩ d__law_draws = true := by decide +kernel
def b__law_mix : List S := [
  .set ⟨3, z, q, false⟩ (.int 0 0 q) q,
  .ifs (.cmp .Gt (.blt .len z [.var 0 z q] q q) (.int 0 0 q) q) [
    .set ⟨3, z, q, false⟩ (.sub (.var 0 z q) (.bin .Mod (.blt .int z [.var 1 z q] q q) (.blt .len z [.var 0 z q] q q) q) q) q] [] q,
  .ifs (.cmp .Lt (.var 1 z q) (.blt .len z [.var 0 z q] q q) q) [
    .ret (.bin .Mod (.blt .int z [.var 3 z q] q q) (.var 2 z q) q) q] [] q,
  .ret (.bin .Mod (.blt .int z [.bin .FloorDiv (.blt .int z [.bin .Add (.bin .Mult (.var 3 z q) (.int 7919 0 q) q) (.bin .Mult (.var 1 z q) (.int 104729 0 q) q) q] q q) (.int 3 0 q) q] q q) (.var 2 z q) q) q]
def d__law_mix : Df := ⟨"_law_mix", "_law_mix", stOf "_law_mix", ["draws", "k", "many", "cell"], ["draws", "k", "many"], b__law_mix⟩
theorem s__law_mix : statB cn fn xn ⟨d__law_mix.N, cs, fs, [], []⟩ d__law_mix = true := by decide +kernel
def b__law_shapes : List S := [
  .set ⟨0, z, q, false⟩ (.lst [(none, .tup [(none, .str "nop" 0 q), (none, .str "" 0 q)] 0 q), (none, .tup [(none, .str "halt" 0 q), (none, .str "" 0 q)] 0 q), (none, .tup [(none, .str "fence" 0 q), (none, .str "" 0 q)] 0 q), (none, .tup [(none, .str "li" 0 q), (none, .str "dn" 0 q)] 0 q), (none, .tup [(none, .str "add" 0 q), (none, .str "ddd" 0 q)] 0 q), (none, .tup [(none, .str "sub" 0 q), (none, .str "ddd" 0 q)] 0 q), (none, .tup [(none, .str "and" 0 q), (none, .str "ddd" 0 q)] 0 q), (none, .tup [(none, .str "or" 0 q), (none, .str "ddd" 0 q)] 0 q), (none, .tup [(none, .str "xor" 0 q), (none, .str "ddd" 0 q)] 0 q), (none, .tup [(none, .str "mul" 0 q), (none, .str "ddd" 0 q)] 0 q), (none, .tup [(none, .str "slt" 0 q), (none, .str "ddd" 0 q)] 0 q)] q) q,
  .set ⟨0, z, q, false⟩ (.bin .Add (.var 0 z q) (.lst [(none, .tup [(none, .str "addi" 0 q), (none, .str "ddn" 0 q)] 0 q), (none, .tup [(none, .str "ld" 0 q), (none, .str "ddn" 0 q)] 0 q), (none, .tup [(none, .str "st" 0 q), (none, .str "ddn" 0 q)] 0 q), (none, .tup [(none, .str "beq" 0 q), (none, .str "ddt" 0 q)] 0 q), (none, .tup [(none, .str "bne" 0 q), (none, .str "ddt" 0 q)] 0 q), (none, .tup [(none, .str "blt" 0 q), (none, .str "ddt" 0 q)] 0 q), (none, .tup [(none, .str "jmp" 0 q), (none, .str "t" 0 q)] 0 q), (none, .tup [(none, .str "jal" 0 q), (none, .str "dt" 0 q)] 0 q), (none, .tup [(none, .str "jr" 0 q), (none, .str "d" 0 q)] 0 q)] q) q) q,
  .ret (.bin .Add (.var 0 z q) (.lst [(none, .tup [(none, .str "swap" 0 q), (none, .str "ddd" 0 q)] 0 q), (none, .tup [(none, .str "ll" 0 q), (none, .str "dd" 0 q)] 0 q), (none, .tup [(none, .str "sc" 0 q), (none, .str "ddd" 0 q)] 0 q), (none, .tup [(none, .str "out" 0 q), (none, .str "d" 0 q)] 0 q)] q) q) q]
def d__law_shapes : Df := ⟨"_law_shapes", "_law_shapes", stOf "_law_shapes", ["rows"], [], b__law_shapes⟩
theorem s__law_shapes : statB cn fn xn ⟨d__law_shapes.N, cs, fs, [], []⟩ d__law_shapes = true := by decide +kernel
def C1__law_written : E := .var 3 z q
def C2__law_written : E := .cmp .Eq (.sub (.sub (.var 1 z q) (.var 3 z q) q) (.int 0 0 q) q) (.sub (.var 0 z q) (.int 0 0 q) q) q
def L3__law_written : List S := [
  .set ⟨5, z, q, false⟩ (.bin .FloorDiv (.var 5 z q) (.sub (.lst [(none, .int 1 0 q), (none, .int 8 0 q)] q) (.blt .int z [.cmp .Eq (.var 7 z q) (.str "d" 0 q) q] q q) q) q) q,
  .set ⟨4, z, q, false⟩ (.bin .Add (.var 4 z q) (.bin .Mult (.var 6 z q) (.sub (.lst [(none, .int 1 0 q), (none, .var 5 z q)] q) (.blt .int z [.cmp .Eq (.var 7 z q) (.str "d" 0 q) q] q q) q) q) q) q]
def b__law_written : List S := [
  .set ⟨1, z, q, false⟩ (.call 13 z [] q q) q,
  .set ⟨2, z, q, false⟩ (.sub (.lc C1__law_written (.nm 3 z q) (.rg1 (.blt .len z [.var 1 z q] q q) q q) [C2__law_written] sc0 [(z, 3)] q) (.int 0 0 q) q) q,
  .par [⟨4, z, q, false⟩, ⟨5, z, q, false⟩] [.bin .Mult (.var 2 z q) (.int 134217728 0 q) q, .int 134217728 0 q] 0 q 0 q q,
  .forr (.tp [.nm 6 z q, .nm 7 z q] 0 q) (.zip (.slc (.var 0 z q) (some (.int 1 0 q)) none q q) (.sub (.sub (.var 1 z q) (.var 2 z q) q) (.int 1 0 q) q) q q) L3__law_written q,
  .ret (.var 4 z q) q]
def d__law_written : Df := ⟨"_law_written", "_law_written", stOf "_law_written", ["one", "shapes", "sort", "k", "found", "weight", "part", "shape"], ["one"], b__law_written⟩
theorem s__law_written : statB cn fn xn ⟨d__law_written.N, cs, fs, [], []⟩ d__law_written = true := by decide +kernel
def L1__law_one : List S := [
  .ifs (.cmp .Eq (.var 8 z q) (.str "d" 0 q) q) [
    .set ⟨6, z, q, false⟩ (.bin .FloorDiv (.var 6 z q) (.int 8 0 q) q) q,
    .app ⟨7, z, q, true⟩ (.bin .FloorDiv (.var 3 z q) (.var 6 z q) q) q q q,
    .set ⟨3, z, q, false⟩ (.bin .Mod (.blt .int z [.var 3 z q] q q) (.var 6 z q) q) q] [
    .app ⟨7, z, q, true⟩ (.var 3 z q) q q q,
    .set ⟨3, z, q, false⟩ (.int 0 0 q) q] q]
def C2__law_one : E := .var 9 z q
def C3__law_one : E := .and [.cmp .NotEq (.var 8 z q) (.str "d" 0 q) q, .cmp .Gt (.var 9 z q) (.sub (.lst [(none, .var 1 z q), (none, .int 65535 0 q)] q) (.blt .int z [.cmp .Eq (.var 8 z q) (.str "n" 0 q) q] q q) q) q] q
def b__law_one : List S := [
  .par [⟨2, z, q, false⟩, ⟨3, z, q, false⟩] [.call 13 z [] q q, .var 0 z q] 0 q 0 q q,
  .ifs (.not (.chn .LtE .Lt (.int 0 0 q) (.var 0 z q) (.bin .Mult (.blt .len z [.var 2 z q] q q) (.int 134217728 0 q) q) q) q) [
    .ret (.non 0 q) q] [] q,
  .unp (.tp [.nm 4 z q, .nm 5 z q] 0 q) (.sub (.var 2 z q) (.bin .FloorDiv (.var 0 z q) (.int 134217728 0 q) q) q) q,
  .par [⟨3, z, q, false⟩, ⟨6, z, q, false⟩, ⟨7, z, q, true⟩] [.bin .Mod (.blt .int z [.var 0 z q] q q) (.int 134217728 0 q) q, .int 134217728 0 q, .lst [] q] 0 q 0 q q,
  .forr (.nm 8 z q) (.ex (.var 5 z q)) L1__law_one q,
  .ifs (.or [.cmp .NotEq (.var 3 z q) (.int 0 0 q) q, .cmp .NotEq (.lc C2__law_one (.tp [.nm 9 z q, .nm 8 z q] 0 q) (.zip (.var 7 z q) (.var 5 z q) q q) [C3__law_one] sc0 [(z, 9), (z, 8)] q) (.lst [] q) q] q) [
    .ret (.non 0 q) q] [] q,
  .ret (.bin .Add (.tup [(none, .var 4 z q)] 0 q) (.blt .tuple z [.var 7 z q] q q) q) q]
def d__law_one : Df := ⟨"_law_one", "_law_one", stOf "_law_one", ["number", "many", "shapes", "left", "word", "shape", "weight", "parts", "kind", "part"], ["number", "many"], b__law_one⟩
theorem s__law_one : statB cn fn xn ⟨d__law_one.N, cs, fs, ["parts"], []⟩ d__law_one = true := by decide +kernel
def L1__law_read : List S := [
  .set ⟨7, z, q, false⟩ (.call 15 z [.sub (.var 0 z q) (.var 6 z q) q, .var 2 z q] q q) q,
  .ifs (.cmp .Is (.var 7 z q) (.non 0 q) q) [
    .ret (.var 6 z q) q] [] q,
  .app ⟨3, z, q, true⟩ (.var 7 z q) q q q]
def L2__law_read : List S := [
  .ifs (.not (.chn .Lt .Lt (.var 5 z q) (.bin .FloorDiv (.sub (.var 0 z q) (.var 6 z q) q) (.int 65536 0 q) q) (.int 64 0 q) q) q) [
    .ret (.var 6 z q) q] [] q,
  .set ⟨5, z, q, false⟩ (.bin .FloorDiv (.sub (.var 0 z q) (.var 6 z q) q) (.int 65536 0 q) q) q,
  .put ⟨4, z, q, true⟩ (.var 5 z q) (.bin .Mod (.blt .int z [.sub (.var 0 z q) (.var 6 z q) q] q q) (.int 65536 0 q) q) q q]
def b__law_read : List S := [
  .set ⟨1, z, q, false⟩ (.blt .len z [.var 0 z q] q q) q,
  .ifs (.or [.cmp .Eq (.var 1 z q) (.int 0 0 q) q, .cmp .NotEq (.sub (.var 0 z q) (.int 0 0 q) q) (.int 23588 0 q) q] q) [
    .ret (.int 0 0 q) q] [] q,
  .ifs (.or [.cmp .Eq (.var 1 z q) (.int 1 0 q) q, .not (.chn .LtE .LtE (.int 0 0 q) (.sub (.var 0 z q) (.int 1 0 q) q) (.int 65535 0 q) q) q] q) [
    .ret (.int 1 0 q) q] [] q,
  .par [⟨2, z, q, false⟩, ⟨3, z, q, true⟩, ⟨4, z, q, true⟩, ⟨5, z, q, false⟩] [.sub (.var 0 z q) (.int 1 0 q) q, .lst [] q, .dic0 false q, .neg (.int 1 0 q) q] 0 q 0 q q,
  .forr (.nm 6 z q) (.rg2 (.int 2 0 q) (.blt .min z [.bin .Add (.int 2 0 q) (.var 2 z q) q, .var 1 z q] q q) q q) L1__law_read q,
  .set ⟨8, z, q, false⟩ (.bin .Add (.int 2 0 q) (.var 2 z q) q) q,
  .ifs (.cmp .GtE (.var 8 z q) (.var 1 z q) q) [
    .ret (.var 1 z q) q] [] q,
  .ifs (.not (.chn .LtE .LtE (.int 0 0 q) (.sub (.var 0 z q) (.var 8 z q) q) (.int 64 0 q) q) q) [
    .ret (.var 8 z q) q] [] q,
  .forr (.nm 6 z q) (.rg2 (.bin .Add (.var 8 z q) (.int 1 0 q) q) (.blt .min z [.bin .Add (.bin .Add (.var 8 z q) (.int 1 0 q) q) (.sub (.var 0 z q) (.var 8 z q) q) q, .var 1 z q] q q) q q) L2__law_read q,
  .set ⟨9, z, q, false⟩ (.bin .Add (.bin .Add (.var 8 z q) (.int 1 0 q) q) (.sub (.var 0 z q) (.var 8 z q) q) q) q,
  .ifs (.cmp .GtE (.var 9 z q) (.var 1 z q) q) [
    .ret (.var 1 z q) q] [] q,
  .ifs (.cmp .Gt (.var 1 z q) (.bin .Add (.var 9 z q) (.int 1 0 q) q) q) [
    .ret (.bin .Add (.var 9 z q) (.int 1 0 q) q) q] [] q,
  .ret (.sub (.lst [(none, .var 9 z q), (none, .tup [(none, .var 3 z q), (none, .var 4 z q)] 0 q)] q) (.blt .int z [.cmp .Eq (.sub (.var 0 z q) (.var 9 z q) q) (.bin .Mod (.blt .sum z [.slc (.var 0 z q) none (some (.var 9 z q)) q q] q q) (.int 4294967296 0 q) q) q] q q) q) q]
def d__law_read : Df := ⟨"_law_read", "_law_read", stOf "_law_read", ["numbers", "whole", "many", "code", "data", "last", "k", "one", "at", "end"], ["numbers"], b__law_read⟩
theorem s__law_read : statB cn fn xn ⟨d__law_read.N, cs, fs, ["code", "data"], []⟩ d__law_read = true := by decide +kernel
def b__law_told : List S := [
  .tri [
    .ret (.call 10 z [.var 0 z q] q q) q] [⟨"BadImage", q, none, .at 1 z q q, q, q⟩, ⟨"MachineError", q, none, .non 0 q, q, q⟩] q]
def d__law_told : Df := ⟨"_law_told", "_law_told", stOf "_law_told", ["numbers", "e"], ["numbers"], b__law_told⟩
theorem s__law_told : statB cn fn xn ⟨d__law_told.N, cs, fs, [], []⟩ d__law_told = true := by decide +kernel
def L2__law_code : List S := [
  .set ⟨10, z, q, false⟩ (.sub (.dic [(.str "d" 0 q, .int 8 0 q), (.str "n" 0 q, .int 65536 0 q), (.str "t" 0 q, .bin .Add (.var 2 z q) (.int 1 0 q) q)] q) (.sub (.var 7 z q) (.var 9 z q) q) q) q,
  .app ⟨8, z, q, true⟩ (.sub (.lst [(none, .call 12 z [.var 0 z q, .bin .Add (.bin .Add (.bin .Add (.var 1 z q) (.bin .Mult (.int 5 0 q) (.var 5 z q) q) q) (.int 1 0 q) q) (.var 9 z q) q, .var 10 z q] q q), (none, .bin .Sub (.var 10 z q) (.int 1 0 q) q)] q) (.blt .int z [.cmp .Eq (.call 12 z [.var 0 z q, .bin .Add (.bin .Add (.var 1 z q) (.bin .Mult (.int 5 0 q) (.var 5 z q) q) q) (.int 4 0 q) q, .int 5 0 q] q q) (.int 0 0 q) q] q q) q) q q q]
def L1__law_code : List S := [
  .unp (.tp [.nm 6 z q, .nm 7 z q] 0 q) (.sub (.var 3 z q) (.call 12 z [.var 0 z q, .bin .Add (.var 1 z q) (.bin .Mult (.int 5 0 q) (.var 5 z q) q) q, .int 24 0 q] q q) q) q,
  .set ⟨8, z, q, true⟩ (.lst [] q) q,
  .forr (.nm 9 z q) (.rg1 (.blt .len z [.var 7 z q] q q) q q) L2__law_code q,
  .app ⟨4, z, q, true⟩ (.bin .Add (.tup [(none, .var 6 z q)] 0 q) (.blt .tuple z [.var 8 z q] q q) q) q q q]
def b__law_code : List S := [
  .par [⟨3, z, q, false⟩, ⟨4, z, q, true⟩] [.call 13 z [] q q, .lst [] q] 0 q 0 q q,
  .forr (.nm 5 z q) (.rg1 (.var 2 z q) q q) L1__law_code q,
  .ret (.var 4 z q) q]
def d__law_code : Df := ⟨"_law_code", "_law_code", stOf "_law_code", ["draws", "k", "many", "shapes", "code", "t", "word", "shape", "parts", "j", "most"], ["draws", "k", "many"], b__law_code⟩
theorem s__law_code : statB cn fn xn ⟨d__law_code.N, cs, fs, ["code", "parts"], []⟩ d__law_code = true := by decide +kernel
def b__law_summed : List S := [
  .ret (.bin .Add (.slc (.var 0 z q) none (some (.neg (.int 1 0 q) q)) q q) (.lst [(none, .bin .Mod (.blt .int z [.blt .sum z [.slc (.var 0 z q) none (some (.neg (.int 1 0 q) q)) q q] q q] q q) (.int 4294967296 0 q) q)] q) q) q]
def d__law_summed : Df := ⟨"_law_summed", "_law_summed", stOf "_law_summed", ["numbers"], ["numbers"], b__law_summed⟩
theorem s__law_summed : statB cn fn xn ⟨d__law_summed.N, cs, fs, [], []⟩ d__law_summed = true := by decide +kernel
def b__law_refused : List S := [
  .tri [
    .exp (.call 6 z [.var 0 z q, .var 1 z q] q q) q] [⟨"BadCode", q, none, .tup [.str "code" 0 q, .at 2 z q q] 0 q, q, q⟩, ⟨"BadData", q, none, .tup [.str "data" 0 q, .at 2 z q q] 0 q, q, q⟩, ⟨"MachineError", q, none, .tup [.str "other" 0 q, .at 2 z q q] 0 q, q, q⟩] q,
  .ret (.tup [(none, .str "" 0 q), (none, .int 0 0 q)] 0 q) q]
def d__law_refused : Df := ⟨"_law_refused", "_law_refused", stOf "_law_refused", ["code", "data", "e"], ["code", "data"], b__law_refused⟩
theorem s__law_refused : statB cn fn xn ⟨d__law_refused.N, cs, fs, [], []⟩ d__law_refused = true := by decide +kernel
def L1_law : List S := [
  .ifs (.cmp .Eq (.call 12 z [.var 1 z q, .bin .Add (.int 200 0 q) (.var 4 z q) q, .sub (.lst [(none, .int 2 0 q), (none, .int 10 0 q), (none, .int 1 0 q), (none, .int 64 0 q)] q) (.call 12 z [.var 1 z q, .int 2 0 q, .int 4 0 q] q q) q] q q) (.int 0 0 q) q) [
    .put ⟨3, z, q, true⟩ (.var 4 z q) (.sub (.lst [(none, .int 0 0 q), (none, .int 65535 0 q), (none, .call 12 z [.var 1 z q, .bin .Add (.int 270 0 q) (.var 4 z q) q, .int 65536 0 q] q q)] q) (.call 12 z [.var 1 z q, .bin .Add (.int 340 0 q) (.var 4 z q) q, .int 3 0 q] q q) q) q q] [] q]
def C2_law : E := .bin .Add (.bin .Mult (.var 4 z q) (.int 65536 0 q) q) (.sub (.var 3 z q) (.var 4 z q) q) q
def C3_law : E := .call 14 z [.var 7 z q] q q
def C4_law : E := .tup [(none, .var 4 z q), (none, .sub (.var 3 z q) (.var 4 z q) q)] 0 q
def L6_law : List S := [
  .ifs (.or [.cmp .NotEq (.call 17 z [.var 17 z q] q q) (.call 16 z [.var 17 z q] q q) q, .and [.cmp .NotEq (.var 17 z q) (.lst [] q) q, .cmp .NotEq (.call 17 z [.call 19 z [.var 17 z q] q q] q q) (.call 16 z [.call 19 z [.var 17 z q] q q] q q) q] q] q) [
    .ret (.bl false 0 q) q] [] q]
def L5_law : List S := [
  .set ⟨10, z, q, false⟩ (.bin .Add (.int 500 0 q) (.bin .Mult (.int 6 0 q) (.var 9 z q) q) q) q,
  .set ⟨11, z, q, false⟩ (.lst [(none, .bin .Add (.sub (.var 6 z q) (.var 9 z q) q) (.int 1 0 q) q), (none, .bin .Sub (.sub (.var 6 z q) (.var 9 z q) q) (.int 1 0 q) q), (none, .bin .Add (.bin .Mult (.call 12 z [.var 1 z q, .var 10 z q, .int 65536 0 q] q q) (.int 65536 0 q) q) (.call 12 z [.var 1 z q, .bin .Add (.var 10 z q) (.int 1 0 q) q, .int 65536 0 q] q q) q), (none, .bin .Sub (.neg (.int 1 0 q) q) (.sub (.var 6 z q) (.var 9 z q) q) q)] q) q,
  .set ⟨11, z, q, false⟩ (.bin .Add (.var 11 z q) (.lst [(none, .bin .Add (.sub (.var 6 z q) (.var 9 z q) q) (.int 4294967296 0 q) q), (none, .bin .Add (.sub (.var 6 z q) (.var 9 z q) q) (.int 65536 0 q) q), (none, .bin .Add (.sub (.var 6 z q) (.var 9 z q) q) (.int 134217728 0 q) q), (none, .int 64 0 q), (none, .int 65 0 q)] q) q) q,
  .set ⟨12, z, q, false⟩ (.sub (.var 11 z q) (.call 12 z [.var 1 z q, .bin .Add (.var 10 z q) (.int 2 0 q) q, .int 9 0 q] q q) q) q,
  .set ⟨13, z, q, false⟩ (.bin .Add (.bin .Add (.slc (.var 6 z q) none (some (.var 9 z q)) q q) (.lst [(none, .var 12 z q)] q) q) (.slc (.var 6 z q) (some (.bin .Add (.var 9 z q) (.int 1 0 q) q)) none q q) q) q,
  .ifs (.or [.and [.cmp .NotEq (.var 12 z q) (.sub (.var 6 z q) (.var 9 z q) q) q, .cmp .NotEq (.call 17 z [.var 13 z q] q q) (.call 16 z [.var 13 z q] q q) q] q, .and [.cmp .NotEq (.var 12 z q) (.sub (.var 6 z q) (.var 9 z q) q) q, .isT (.call 17 z [.var 13 z q] q q) q q q] q] q) [
    .ret (.bl false 0 q) q] [] q,
  .ifs (.and [.cmp .Lt (.bin .Add (.var 9 z q) (.int 1 0 q) q) (.blt .len z [.var 6 z q] q q) q, .cmp .NotEq (.call 17 z [.call 19 z [.var 13 z q] q q] q q) (.call 16 z [.call 19 z [.var 13 z q] q q] q q) q] q) [
    .ret (.bl false 0 q) q] [] q,
  .par [⟨14, z, q, false⟩, ⟨15, z, q, false⟩] [.bin .Add (.slc (.var 6 z q) none (some (.var 9 z q)) q q) (.slc (.var 6 z q) (some (.bin .Add (.var 9 z q) (.int 1 0 q) q)) none q q) q, .bin .Add (.bin .Add (.slc (.var 6 z q) none (some (.var 9 z q)) q q) (.slc (.var 6 z q) (some (.var 9 z q)) (some (.bin .Add (.var 9 z q) (.int 1 0 q) q)) q q) q) (.slc (.var 6 z q) (some (.var 9 z q)) none q q) q] 0 q 0 q q,
  .set ⟨16, z, q, false⟩ (.bin .Add (.bin .Add (.slc (.var 6 z q) none (some (.var 9 z q)) q q) (.rev (.slc (.var 6 z q) (some (.var 9 z q)) (some (.bin .Add (.var 9 z q) (.int 2 0 q) q)) q q) 0 q q q q) q) (.slc (.var 6 z q) (some (.bin .Add (.var 9 z q) (.int 2 0 q) q)) none q q) q) q,
  .forr (.nm 17 z q) (.ex (.lst [(none, .var 14 z q), (none, .var 15 z q), (none, .var 16 z q), (none, .slc (.var 6 z q) none (some (.var 9 z q)) q q)] q)) L6_law q]
def b_law : List S := [
  .set ⟨1, z, q, false⟩ (.call 11 z [.var 0 z q] q q) q,
  .par [⟨2, z, q, false⟩, ⟨3, z, q, true⟩] [.call 18 z [.var 1 z q, .int 20 0 q, .call 12 z [.var 1 z q, .int 1 0 q, .int 21 0 q] q q] q q, .dic0 false q] 0 q 0 q q,
  .forr (.nm 4 z q) (.rg1 (.int 64 0 q) q q) L1_law q,
  .set ⟨5, z, q, false⟩ (.lc C2_law (.nm 4 z q) (.ex (.blt .sorted z [.var 3 z q] q q)) [] sc0 [(z, 4)] q) q,
  .set ⟨6, z, q, false⟩ (.bin .Add (.bin .Add (.bin .Add (.lst [(none, .int 23588 0 q), (none, .blt .len z [.var 2 z q] q q)] q) (.lc C3_law (.nm 7 z q) (.ex (.var 2 z q)) [] sc0 [(z, 7)] q) q) (.lst [(none, .blt .len z [.var 5 z q] q q)] q) q) (.var 5 z q) q) q,
  .set ⟨6, z, q, false⟩ (.bin .Add (.var 6 z q) (.lst [(none, .bin .Mod (.blt .sum z [.var 6 z q] q q) (.int 4294967296 0 q) q)] q) q) q,
  .set ⟨8, z, q, false⟩ (.blt .list z [.var 6 z q] q q) q,
  .ifs (.or [.cmp .NotEq (.call 6 z [.var 2 z q, .blt .dict z [.lc C4_law (.nm 4 z q) (.ex (.rev (.blt .sorted z [.var 3 z q] q q) 0 q q q q)) [] sc0 [(z, 4)] q] q q] q q) (.var 6 z q) q, .cmp .NotEq (.call 17 z [.var 6 z q] q q) (.tup [(none, .var 2 z q), (none, .var 3 z q)] 0 q) q, .cmp .NotEq (.call 16 z [.var 6 z q] q q) (.tup [(none, .var 2 z q), (none, .var 3 z q)] 0 q) q] q) [
    .ret (.bl false 0 q) q] [] q,
  .forr (.nm 9 z q) (.rg1 (.blt .len z [.var 6 z q] q q) q q) L5_law q,
  .ifs (.or [.cmp .NotEq (.call 17 z [.slc (.var 6 z q) none (some (.bin .Sub (.blt .len z [.var 6 z q] q q) (.int 1 0 q) q)) q q] q q) (.bin .Sub (.blt .len z [.var 6 z q] q q) (.int 1 0 q) q) q, .cmp .NotEq (.call 17 z [.bin .Add (.var 6 z q) (.lst [(none, .int 0 0 q)] q) q] q q) (.blt .len z [.var 6 z q] q q) q, .cmp .NotEq (.var 6 z q) (.var 8 z q) q] q) [
    .ret (.bl false 0 q) q] [] q,
  .set ⟨18, z, q, false⟩ (.bin .Add (.lst [(none, .int 23588 0 q), (none, .int 65535 0 q)] q) (.bin .Mult (.lst [(none, .int 0 0 q)] q) (.int 5 0 q) q) q) q,
  .ifs (.or [.cmp .NotEq (.call 17 z [.var 18 z q] q q) (.int 7 0 q) q, .cmp .NotEq (.call 17 z [.lst [(none, .int 23588 0 q), (none, .int 65536 0 q)] q] q q) (.int 1 0 q) q, .cmp .NotEq (.call 17 z [.lst [(none, .int 23588 0 q), (none, .int 0 0 q), (none, .int 65 0 q)] q] q q) (.int 2 0 q) q, .cmp .NotEq (.call 17 z [.lst [(none, .int 23588 0 q), (none, .int 0 0 q), (none, .int 0 0 q), (none, .int 23588 0 q)] q] q q) (.tup [(none, .lst [] q), (none, .dic0 false q)] 0 q) q, .cmp .NotEq (.call 17 z [.lst [] q] q q) (.int 0 0 q) q] q) [
    .ret (.bl false 0 q) q] [] q,
  .set ⟨19, z, q, false⟩ (.call 12 z [.var 1 z q, .int 3 0 q, .bin .Add (.blt .len z [.var 2 z q] q q) (.int 1 0 q) q] q q) q,
  .set ⟨20, z, q, false⟩ (.lst [(none, .call 20 z [.bin .Add (.bin .Add (.slc (.var 2 z q) none (some (.var 19 z q)) q q) (.lst [(none, .tup [(none, .str "li" 0 q), (none, .int 8 0 q), (none, .int 0 0 q)] 0 q)] q) q) (.slc (.var 2 z q) (some (.var 19 z q)) none q q) q, .dic [(.int 64 0 q, .int 0 0 q)] q] q q), (none, .call 20 z [.var 2 z q, .dic [(.int 0 0 q, .int 1 0 q), (.int 5 0 q, .int 65536 0 q), (.int 70 0 q, .int 1 0 q)] q] q q)] q) q,
  .set ⟨20, z, q, false⟩ (.bin .Add (.var 20 z q) (.lst [(none, .call 20 z [.var 2 z q, .dic [(.neg (.int 1 0 q) q, .int 0 0 q)] q] q q), (none, .call 20 z [.var 2 z q, .dic [(.int 3 0 q, .int 1 0 q), (.int 64 0 q, .int 1 0 q)] q] q q), (none, .call 20 z [.var 2 z q, .dic [(.int 2 0 q, .neg (.int 1 0 q) q)] q] q q)] q) q) q,
  .ret (.cmp .Eq (.var 20 z q) (.lst [(none, .tup [(none, .str "code" 0 q), (none, .var 19 z q)] 0 q), (none, .tup [(none, .str "data" 0 q), (none, .int 1 0 q)] 0 q), (none, .tup [(none, .str "data" 0 q), (none, .int 0 0 q)] 0 q), (none, .tup [(none, .str "data" 0 q), (none, .int 1 0 q)] 0 q), (none, .tup [(none, .str "data" 0 q), (none, .int 0 0 q)] 0 q)] q) q) q]
def d_law : Df := ⟨"law", "law", stOf "law", ["script", "draws", "code", "data", "address", "rows", "numbers", "one", "kept", "k", "at", "others", "other", "bent", "less", "twice", "turned_row", "some", "long", "spot", "bads"], ["script"], b_law⟩
theorem s_law : statB cn fn xn ⟨d_law.N, cs, fs, ["data"], []⟩ d_law = true := by decide +kernel
def df : Nat → Option Df
  | 0 => some d_bound_of
  | 1 => some d_is_instruction
  | 2 => some d_check_program
  | 3 => some d_written
  | 4 => some d_guess_of
  | 5 => some d_instruction_of
  | 6 => some d_image
  | 7 => some d_code_in
  | 8 => some d_data_in
  | 9 => some d_count_at
  | 10 => some d_read_image
  | 11 => some d__law_draws
  | 12 => some d__law_mix
  | 13 => some d__law_shapes
  | 14 => some d__law_written
  | 15 => some d__law_one
  | 16 => some d__law_read
  | 17 => some d__law_told
  | 18 => some d__law_code
  | 19 => some d__law_summed
  | 20 => some d__law_refused
  | 21 => some d_law
  | _ => none
theorem df_ok : ∀ n f, df n = some f → f.Stat cn fn xn := by
  intro n f h
  unfold df at h
  split at h
  · cases h; exact stat_of s_bound_of
  · cases h; exact stat_of s_is_instruction
  · cases h; exact stat_of s_check_program
  · cases h; exact stat_of s_written
  · cases h; exact stat_of s_guess_of
  · cases h; exact stat_of s_instruction_of
  · cases h; exact stat_of s_image
  · cases h; exact stat_of s_code_in
  · cases h; exact stat_of s_data_in
  · cases h; exact stat_of s_count_at
  · cases h; exact stat_of s_read_image
  · cases h; exact stat_of s__law_draws
  · cases h; exact stat_of s__law_mix
  · cases h; exact stat_of s__law_shapes
  · cases h; exact stat_of s__law_written
  · cases h; exact stat_of s__law_one
  · cases h; exact stat_of s__law_read
  · cases h; exact stat_of s__law_told
  · cases h; exact stat_of s__law_code
  · cases h; exact stat_of s__law_summed
  · cases h; exact stat_of s__law_refused
  · cases h; exact stat_of s_law
  · cases h
end Ev.K51
set_option Elab.async false
namespace Ev.K51
open PySem
def lawDepth : Nat := 12
def Cc : Nat → D
  | 0 => .int 8
  | 1 => .int 65536
  | 2 => .int 64
  | 3 => .dct false (([("li", "dn"), ("add", "daa"), ("sub", "daa"), ("and", "daa"), ("or", "daa"), ("xor", "daa"), ("mul", "daa"), ("slt", "daa"), ("addi", "dan"), ("ld", "dan"), ("st", "aan"), ("beq", "aat"), ("bne", "aat"), ("blt", "aat"), ("jmp", "t"), ("jal", "dt"), ("jr", "a"), ("fence", ""), ("swap", "daa"), ("ll", "da"), ("sc", "daa"), ("out", "a"), ("halt", ""), ("nop", "")] : List (Str × Str)).map fun p => (D.str p.1, D.str p.2))
  | 4 => .tup ((["nop", "halt", "fence", "li", "add", "sub", "and", "or", "xor", "mul", "slt", "addi", "ld", "st", "beq", "bne", "blt", "jmp", "jal", "jr", "swap", "ll", "sc", "out"] : List Str).map D.str)
  | 5 => .int 4294967296
  | 6 => .int 134217728
  | 7 => .int 8
  | 8 => .int 23588
  | _ => .int 8
def tab : List (Str × Str × Bool) := [("BadCode", "BadCode", true), ("BadCode", "BadData", false), ("BadCode", "BadImage", false), ("BadCode", "MachineError", true), ("BadData", "BadCode", false), ("BadData", "BadData", true), ("BadData", "BadImage", false), ("BadData", "MachineError", true), ("BadImage", "BadCode", false), ("BadImage", "BadData", false), ("BadImage", "BadImage", true), ("BadImage", "MachineError", true)]
abbrev sub := subT tab
@[simp] theorem Cc_0 : Cc 0 = .int 8 := (rfl)
@[simp] theorem Cc_1 : Cc 1 = .int 65536 := (rfl)
@[simp] theorem Cc_2 : Cc 2 = .int 64 := (rfl)
@[simp] theorem Cc_5 : Cc 5 = .int 4294967296 := (rfl)
@[simp] theorem Cc_6 : Cc 6 = .int 134217728 := (rfl)
@[simp] theorem Cc_7 : Cc 7 = .int 8 := (rfl)
@[simp] theorem Cc_8 : Cc 8 = .int 23588 := (rfl)
end Ev.K51
set_option Elab.async false
set_option linter.all false
set_option maxRecDepth 100000
set_option maxHeartbeats 1000000
namespace Ev
open PySem PySem.Spec PyProof.Rows L2
@[simp] theorem sz_lit (n : Nat) (h : Nat.ble n 16777216 = true) : n ≤ sizeLine := by
  unfold sizeLine
  have := Nat.le_of_ble_eq_true h
  omega
/-- kinds of parts -/
inductive Kd where
  | d | a | n | t
  deriving DecidableEq
def Kd.c : Kd → Nat
  | .d => 100 | .a => 97 | .n => 110 | .t => 116
def Kd.s : Kd → Str
  | .d => "d" | .a => "a" | .n => "n" | .t => "t"
theorem Kd.s_eq (k : Kd) : k.s = ⟨#[k.c]⟩ := by cases k <;> decide +kernel
def Kd.r : Kd → Bool
  | .d => true | .a => true | _ => false
def shS (ks : List Kd) : Str := ⟨(ks.map Kd.c).toArray⟩
@[simp] theorem kd_eq_d (k : Kd) : (k.s = ("d" : Str)) = (k = .d) := by cases k <;> simp <;> decide +kernel
@[simp] theorem kd_eq_n (k : Kd) : (k.s = ("n" : Str)) = (k = .n) := by cases k <;> simp <;> decide +kernel
@[simp] theorem kd_eq_t (k : Kd) : (k.s = ("t" : Str)) = (k = .t) := by cases k <;> simp <;> decide +kernel
theorem isIn_sign (c : Nat) (z : Str) : evCmp.isIn (.str ⟨#[c]⟩) (.str z) = .ok (decide (c ∈ z.cps.toList)) := by
  show R.ok (!(Builtin.Str.occurrences z ⟨#[c]⟩ 0 z.length 1).isEmpty) = _
  rw [PySem.StrLaws.found_one]
@[simp] theorem in_da (k : Kd) (l l' : Nat) : cmpE .In (.str k.s, l) (.str ("da" : Str), l') = .ok (.bl k.r, 0) := by
  rw [cmpE_eq]
  show mkB (evCmp.isIn (.str k.s) (.str ("da" : Str))) = _
  rw [Kd.s_eq, isIn_sign]
  cases k <;> rfl
@[simp] theorem items_sh (ks : List Kd) (l : Nat) : itemsOf (.str (shS ks), l) = .ok (ks.map fun k => (.str k.s, 0)) := by
  rw [items_str]
  unfold shS
  simp [Kd.s_eq]
theorem shS_len (ks : List Kd) : (shS ks).length = ks.length := by
  unfold shS Str.length
  simp
@[simp] theorem ch_zero (n : Nat) : (if maxLv [] = 0 then (0 : Nat) else n) = 0 := rfl
end Ev
namespace Ev.K51
open PySem PySem.Spec PyProof.Rows L2
def W : Nat → Str
  | 0 => "nop"
  | 1 => "halt"
  | 2 => "fence"
  | 3 => "li"
  | 4 => "add"
  | 5 => "sub"
  | 6 => "and"
  | 7 => "or"
  | 8 => "xor"
  | 9 => "mul"
  | 10 => "slt"
  | 11 => "addi"
  | 12 => "ld"
  | 13 => "st"
  | 14 => "beq"
  | 15 => "bne"
  | 16 => "blt"
  | 17 => "jmp"
  | 18 => "jal"
  | 19 => "jr"
  | 20 => "swap"
  | 21 => "ll"
  | 22 => "sc"
  | 23 => "out"
  | _ => "nop"
def KS : Nat → List Kd
  | 0 => []
  | 1 => []
  | 2 => []
  | 3 => [.d, .n]
  | 4 => [.d, .a, .a]
  | 5 => [.d, .a, .a]
  | 6 => [.d, .a, .a]
  | 7 => [.d, .a, .a]
  | 8 => [.d, .a, .a]
  | 9 => [.d, .a, .a]
  | 10 => [.d, .a, .a]
  | 11 => [.d, .a, .n]
  | 12 => [.d, .a, .n]
  | 13 => [.a, .a, .n]
  | 14 => [.a, .a, .t]
  | 15 => [.a, .a, .t]
  | 16 => [.a, .a, .t]
  | 17 => [.t]
  | 18 => [.d, .t]
  | 19 => [.a]
  | 20 => [.d, .a, .a]
  | 21 => [.d, .a]
  | 22 => [.d, .a, .a]
  | 23 => [.a]
  | _ => []
theorem tb1 : ∀ n : Nat, n < 24 → evIdx (Cc 4, 0) (.int n, 0) = .ok (.str (W n), 0) := by
  intro n h
  match n, h with
  | 0, _ => kernel_rfl
  | 1, _ => kernel_rfl
  | 2, _ => kernel_rfl
  | 3, _ => kernel_rfl
  | 4, _ => kernel_rfl
  | 5, _ => kernel_rfl
  | 6, _ => kernel_rfl
  | 7, _ => kernel_rfl
  | 8, _ => kernel_rfl
  | 9, _ => kernel_rfl
  | 10, _ => kernel_rfl
  | 11, _ => kernel_rfl
  | 12, _ => kernel_rfl
  | 13, _ => kernel_rfl
  | 14, _ => kernel_rfl
  | 15, _ => kernel_rfl
  | 16, _ => kernel_rfl
  | 17, _ => kernel_rfl
  | 18, _ => kernel_rfl
  | 19, _ => kernel_rfl
  | 20, _ => kernel_rfl
  | 21, _ => kernel_rfl
  | 22, _ => kernel_rfl
  | 23, _ => kernel_rfl
  | n + 24, h => omega
theorem tb2 : ∀ n : Nat, n < 24 → evIdx (Cc 3, 0) (.str (W n), 0) = .ok (.str (shS (KS n)), 0) := by
  intro n h
  match n, h with
  | 0, _ => kernel_rfl
  | 1, _ => kernel_rfl
  | 2, _ => kernel_rfl
  | 3, _ => kernel_rfl
  | 4, _ => kernel_rfl
  | 5, _ => kernel_rfl
  | 6, _ => kernel_rfl
  | 7, _ => kernel_rfl
  | 8, _ => kernel_rfl
  | 9, _ => kernel_rfl
  | 10, _ => kernel_rfl
  | 11, _ => kernel_rfl
  | 12, _ => kernel_rfl
  | 13, _ => kernel_rfl
  | 14, _ => kernel_rfl
  | 15, _ => kernel_rfl
  | 16, _ => kernel_rfl
  | 17, _ => kernel_rfl
  | 18, _ => kernel_rfl
  | 19, _ => kernel_rfl
  | 20, _ => kernel_rfl
  | 21, _ => kernel_rfl
  | 22, _ => kernel_rfl
  | 23, _ => kernel_rfl
  | n + 24, h => omega
theorem tb3 : ∀ n : Nat, n < 24 → evMth .get (Cc 3, 0) [(.str (W n), 0)] = .ok (.str (shS (KS n)), 0) := by
  intro n h
  match n, h with
  | 0, _ => kernel_rfl
  | 1, _ => kernel_rfl
  | 2, _ => kernel_rfl
  | 3, _ => kernel_rfl
  | 4, _ => kernel_rfl
  | 5, _ => kernel_rfl
  | 6, _ => kernel_rfl
  | 7, _ => kernel_rfl
  | 8, _ => kernel_rfl
  | 9, _ => kernel_rfl
  | 10, _ => kernel_rfl
  | 11, _ => kernel_rfl
  | 12, _ => kernel_rfl
  | 13, _ => kernel_rfl
  | 14, _ => kernel_rfl
  | 15, _ => kernel_rfl
  | 16, _ => kernel_rfl
  | 17, _ => kernel_rfl
  | 18, _ => kernel_rfl
  | 19, _ => kernel_rfl
  | 20, _ => kernel_rfl
  | 21, _ => kernel_rfl
  | 22, _ => kernel_rfl
  | 23, _ => kernel_rfl
  | n + 24, h => omega
theorem tb4 : ∀ n : Nat, n < 24 → evMth .index (Cc 4, 0) [(.str (W n), 0)] = .ok (.int n, 0) := by
  intro n h
  match n, h with
  | 0, _ => kernel_rfl
  | 1, _ => kernel_rfl
  | 2, _ => kernel_rfl
  | 3, _ => kernel_rfl
  | 4, _ => kernel_rfl
  | 5, _ => kernel_rfl
  | 6, _ => kernel_rfl
  | 7, _ => kernel_rfl
  | 8, _ => kernel_rfl
  | 9, _ => kernel_rfl
  | 10, _ => kernel_rfl
  | 11, _ => kernel_rfl
  | 12, _ => kernel_rfl
  | 13, _ => kernel_rfl
  | 14, _ => kernel_rfl
  | 15, _ => kernel_rfl
  | 16, _ => kernel_rfl
  | 17, _ => kernel_rfl
  | 18, _ => kernel_rfl
  | 19, _ => kernel_rfl
  | 20, _ => kernel_rfl
  | 21, _ => kernel_rfl
  | 22, _ => kernel_rfl
  | 23, _ => kernel_rfl
  | n + 24, h => omega
theorem ks_len : ∀ n : Nat, (KS n).length ≤ 3 := by
  intro n
  unfold KS
  split <;> decide
@[simp] theorem cx4 : cixOk (Cc 4) = true := by kernel_rfl
@[simp] theorem len4 (l : Nat) : evBlt .len [(Cc 4, l)] = .ok (.int 24, 0) := by kernel_rfl
abbrev G (k : Nat) : Fns := deep Cc sub df k
theorem G_succ (k i : Nat) (ds : List D) : G (k + 1) i ds = match df i with | some f => f.run Cc sub (G k) ds | none => .fail := rfl
def bdK (x : Kd) (many : Int) : Int := match x with | .d => 8 | .a => 8 | .n => 65536 | .t => many + 1
theorem sp_bound (k : Nat) (x : Kd) (many : Int) : G (k + 1) 0 [.str x.s, .int many] = .ok (.int (bdK x many)) := by
  rw [G_succ]
  show d_bound_of.run Cc sub (G k) _ = _
  rw [run_eq _ _ _ _ _ rfl]
  cases x <;> simp [d_bound_of, b_bound_of, startE, bdK, Kd.r]
@[simp] theorem c_bound (k : Nat) (x : Kd) (many : Int) (l l' : Nat) : callD (G (k + 1)) 0 [(.str x.s, l), (.int many, l')] = .ok (.int (bdK x many), 0) := callD_ok (sp_bound k x many)
/-- a tuple -/
def insD (w : Str) (ps : List Int) : D := .tup (.str w :: ps.map .int)
def okI (ks : List Kd) (ps : List Int) (many : Int) : Bool := decide (ks.length = ps.length) && ((ps.zip ks).all fun p => decide (0 ≤ p.1) && decide (p.1 < bdK p.2 many))
/-- w is a word of this shape -/
def IsW (w : Str) (ks : List Kd) : Prop := evMth .get (Cc 3, 0) [(.str w, 0)] = .ok (.str (shS ks), 0)
@[simp] theorem mth_sh (f : Env → R (List DL)) (ρ : Env) : mthR .get (.ok (Cc 3, 0)) f ρ = ap1 (evMth .get (Cc 3, 0)) (f ρ) := (rfl)
@[simp] theorem len_sh {ks : List Kd} (h : ks.length ≤ 100) (l : Nat) : evBlt .len [(.str (shS ks), l)] = .ok (.int ks.length, 0) := by
  rw [len_str (by rw [shS_len]; unfold sizeLine; omega), shS_len]
theorem sp_isins (k : Nat) {w : Str} {ks : List Kd} (hw : IsW w ks) (hk : ks.length ≤ 100) (ps : List Int) (many : Int) : G (k + 2) 1 [insD w ps, .int many] = .ok (.bl (okI ks ps many)) := by
  rw [G_succ]
  show d_is_instruction.run Cc sub (G (k + 1)) _ = _
  rw [run_eq _ _ _ _ _ rfl]
  have hs : (shS ks).length ≤ sizeLine := by rw [shS_len]; unfold sizeLine; omega
  have hw : evMth .get (Cc 3, 0) [(.str w, 0)] = .ok (.str (shS ks), 0) := hw
  by_cases hl : ks.length = ps.length
  · have hk' : ps.length ≤ 100 := by omega
    have hz : (ps.zip ks).length ≤ sizeLine := by rw [List.length_zip]; unfold sizeLine; omega
    simp [d_is_instruction, b_is_instruction, startE, insD, cutD_tail, hw, hk, hl, hk']
    rw [lcLoop_all (g := fun p : Int × Kd => (D.bl (decide (0 ≤ p.1) && decide (p.1 < bdK p.2 many)), 0)) fun p hp => ⟨_, by simp; rfl, rfl, ?_⟩]
    · rw [ap1_ok, mkLst_map _ _ hz]
      simp [okI, hl]
    · simp [C1_is_instruction]
  · have hl' : ¬ (ks.length : Int) = ps.length := by omega
    simp [d_is_instruction, b_is_instruction, startE, insD, cutD_tail, hw, hk, hl, hl', okI]
@[simp] theorem c_isins (k : Nat) {w : Str} {ks : List Kd} (hw : IsW w ks) (hk : ks.length ≤ 100) (ps : List Int) (many : Int) (l l' : Nat) : callD (G (k + 2)) 1 [(insD w ps, l), (.int many, l')] = .ok (.bl (okI ks ps many), 0) := callD_ok (sp_isins k hw hk ps many)
/-- an instruction -/
structure Ins where
  n : Nat
  ps : List Int
  deriving DecidableEq
abbrev Ins.w (i : Ins) : Str := W i.n
abbrev Ins.ks (i : Ins) : List Kd := KS i.n
def Ins.D (i : Ins) : D := insD i.w i.ps
abbrev Ins.Ok (i : Ins) : Prop := i.n < 24
theorem Ins.Ok.w {i : Ins} (h : i.Ok) : IsW i.w i.ks := tb3 i.n h
theorem Ins.Ok.k {i : Ins} (h : i.Ok) : i.ks.length ≤ 100 := by have := ks_len i.n; unfold Ins.ks; omega
def Ins.good (i : Ins) (many : Int) : Bool := okI i.ks i.ps many
def codeD (c : List Ins) : Ev.D := .lst (c.map Ins.D)
/-- the first that is none -/
def badAt (c : List Ins) (many : Int) : Option Nat := c.findIdx? fun i => !i.good many
theorem lp_check (k : Nat) (c : List Ins) (many : Int) (hm : many = c.length) : ∀ (r : List Ins) (j : Nat) (s1 s2 : Option T), (∀ i ∈ r, i.Ok) →
    ∃ ρ', forLoop (Tg.tp [Tg.nm 1 z q, Tg.nm 2 z q] 0 q).bind (evSs Cc (G (k + 2)) sub L1_check_program) (enumI j (r.map fun i => (i.D, 0))) [some (T.bor (codeD c) 0), s1, s2] = match badAt r many with
    | some t => .exc "BadCode" (.int (j + t : Nat))
    | none => .ok (.nx ρ')
  | [], j, s1, s2, _ => ⟨[some (T.bor (codeD c) 0), s1, s2], by simp [badAt]⟩
  | i :: r, j, s1, s2, h => by
    have hi := h i (List.mem_cons_self ..)
    obtain ⟨ρ', ih⟩ := lp_check k c many hm r (j + 1) (some (T.bor (.int j) 0)) (some (T.bor i.D 0)) fun x hx => h x (List.mem_cons_of_mem _ hx)
    refine ⟨ρ', ?_⟩
    have e : callD (G (k + 2)) 1 [(i.D, 0), (.int many, 0)] = .ok (.bl (okI i.ks i.ps many), 0) := c_isins k hi.w hi.k i.ps many 0 0
    have eb : evSs Cc (G (k + 2)) sub L1_check_program [some (T.bor (codeD c) 0), some (T.bor (.int j) 0), some (T.bor i.D 0)] = if okI i.ks i.ps many = true then .ok (.nx [some (T.bor (codeD c) 0), some (T.bor (.int j) 0), some (T.bor i.D 0)]) else .exc "BadCode" (.int j) := by
      subst hm
      have e := e
      cases hg : okI i.ks i.ps c.length <;> rw [hg] at e <;> simp [L1_check_program, codeD, e]
    cases hg : okI i.ks i.ps many with
    | true =>
      have hb : badAt (i :: r) many = (badAt r many).map (· + 1) := by unfold badAt Ins.good; rw [List.findIdx?_cons]; simp [hg]
      rw [hb]
      rw [if_pos hg] at eb
      simp [eb, ih]
      cases badAt r many with
      | none => rfl
      | some t => simp; omega
    | false =>
      have hb : badAt (i :: r) many = some 0 := by unfold badAt Ins.good; rw [List.findIdx?_cons]; simp [hg]
      rw [hb]
      rw [if_neg (by rw [hg]; exact Bool.false_ne_true)] at eb
      simp [eb]
theorem sp_check (k : Nat) {c : List Ins} (hc : ∀ i ∈ c, i.Ok) : G (k + 3) 2 [codeD c] = match badAt c c.length with
    | some j => .exc "BadCode" (.int j)
    | none => .ok .non := by
  rw [G_succ]
  show d_check_program.run Cc sub (G (k + 2)) _ = _
  rw [run_eq _ _ _ _ _ rfl]
  obtain ⟨ρ', e⟩ := lp_check k c c.length rfl c 0 none none hc
  have e : forLoop (Tg.tp [Tg.nm 1 z q, Tg.nm 2 z q] 0 q).bind (evSs Cc (G (k + 2)) sub L1_check_program) (enumI 0 (List.map ((fun d => (d, 0)) ∘ Ins.D) c)) [some (T.bor (D.lst (List.map Ins.D c)) 0), none, none] = _ := e
  simp [d_check_program, b_check_program, startE, codeD, e]
  cases badAt c c.length with
  | none => rfl
  | some t => simp
/-- the number that is written -/
def wrF : List (Int × Kd) → Int → Int → Int
  | [], f, _ => f
  | (p, k) :: r, f, w => if k.r = true then wrF r (f + p * (w / 8)) (w / 8) else wrF r (f + p) w
def Ins.wr (i : Ins) : Int := wrF (i.ps.zip i.ks) (i.n * 134217728) 134217728
theorem s64_of {i : Int} (h0 : 0 ≤ i) (h1 : i ≤ 134217728) : small64 i = true := by
  unfold small64
  rw [decide_eq_true (show -(2 ^ 64) < i by omega), decide_eq_true (show i < 2 ^ 64 by omega)]; rfl
theorem lp_written (Γ : Fns) (s0 : Option T) : ∀ (r : List (Int × Kd)) (f w : Int) (s3 s4 : Option T), 0 ≤ w → w ≤ 134217728 →
    ∃ w' s3' s4', forLoop (Tg.tp [Tg.nm 3 z q, Tg.nm 4 z q] 0 q).bind (evSs Cc Γ sub L1_written) (r.map fun p => (.tup [.int p.1, .str p.2.s], 0)) [s0, some (T.bor (.int f) 0), some (T.bor (.int w) 0), s3, s4] = .ok (.nx [s0, some (T.bor (.int (wrF r f w)) 0), w', s3', s4'])
  | [], f, w, s3, s4, _, _ => ⟨_, _, _, rfl⟩
  | (p, k) :: r, f, w, s3, s4, h0, h1 => by
    have h8 : small64 (w / 8) = true := s64_of (by omega) (by omega)
    cases hk : k.r with
    | true =>
      obtain ⟨w', s3', s4', ih⟩ := lp_written Γ s0 r (f + p * (w / 8)) (w / 8) (some (.bor (.int p) 0)) (some (.bor (.str k.s) 0)) (by omega) (by omega)
      have eb : evSs Cc Γ sub L1_written [s0, some (T.bor (.int f) 0), some (T.bor (.int w) 0), some (.bor (.int p) 0), some (.bor (.str k.s) 0)] = .ok (.nx [s0, some (T.bor (.int (f + p * (w / 8))) 0), some (T.bor (.int (w / 8)) 0), some (.bor (.int p) 0), some (.bor (.str k.s) 0)]) := by
        simp [L1_written, hk, h8]
      exact ⟨w', s3', s4', by simp [eb, ih, wrF, hk]⟩
    | false =>
      obtain ⟨w', s3', s4', ih⟩ := lp_written Γ s0 r (f + p) w (some (.bor (.int p) 0)) (some (.bor (.str k.s) 0)) h0 h1
      have eb : evSs Cc Γ sub L1_written [s0, some (T.bor (.int f) 0), some (T.bor (.int w) 0), some (.bor (.int p) 0), some (.bor (.str k.s) 0)] = .ok (.nx [s0, some (T.bor (.int (f + p)) 0), some (T.bor (.int w) 0), some (.bor (.int p) 0), some (.bor (.str k.s) 0)]) := by
        simp [L1_written, hk, h8]
      exact ⟨w', s3', s4', by simp [eb, ih, wrF, hk]⟩
theorem sp_written (k : Nat) {i : Ins} (hi : i.Ok) : G (k + 1) 3 [i.D] = .ok (.int i.wr) := by
  rw [G_succ]
  show d_written.run Cc sub (G k) _ = _
  rw [run_eq _ _ _ _ _ rfl]
  obtain ⟨w', s3', s4', e⟩ := lp_written (G k) (some (T.bor i.D 0)) (i.ps.zip i.ks) (i.n * 134217728) 134217728 none none (by decide) (by decide)
  simp [d_written, b_written, startE, Ins.D, insD, cutD_tail, tb4 _ hi, tb2 _ hi]
  have e : forLoop (Tg.tp [Tg.nm 3 z q, Tg.nm 4 z q] 0 q).bind (evSs Cc (G k) sub L1_written) ((i.ps.zip i.ks).map fun p => (.tup [.int p.1, .str p.2.s], 0)) [some (T.bor (.tup (.str i.w :: i.ps.map .int)) 0), some (T.bor (.int (i.n * 134217728)) 0), some (T.bor (.int 134217728) 0), none, none] = _ := e
  rw [e]
  simp [Ins.wr]
end Ev.K51
set_option Elab.async false
set_option linter.all false
set_option maxRecDepth 100000
set_option maxHeartbeats 1000000
namespace Ev.K51
open PySem PySem.Spec PyProof.Rows L2
/-! ### a number read -/
def gsF : List Kd → Int → Int → List Int
  | [], _, _ => []
  | k :: r, n, w => if k.r = true then (n / (w / 8) % 8) :: gsF r n (w / 8) else (n % 65536) :: gsF r n w
theorem gsF_len : ∀ (ks : List Kd) (n w : Int), (gsF ks n w).length = ks.length
  | [], _, _ => rfl
  | k :: r, n, w => by
    unfold gsF
    split <;> simp [gsF_len r]
theorem pow8 (n : Nat) : (1 : Int) ≤ 8 ^ n := by
  induction n with
  | zero => decide
  | succ n ih => rw [Int.pow_succ]; omega
theorem lp_guess (Γ : Fns) (n : Int) (s1 : D) : ∀ (ks : List Kd) (acc : List Int) (w : Int) (s4 : Option T), acc.length + ks.length ≤ 1000 → 8 ^ ks.length ≤ w → w ≤ 134217728 →
    ∃ w' s4', forLoop (Tg.nm 4 z q).bind (evSs Cc Γ sub L1_guess_of) (ks.map fun k => (.str k.s, 0)) [some (T.bor (.int n) 0), some (.bor s1 0), some (.fl (acc.map .int)), some (T.bor (.int w) 0), s4] =
      .ok (.nx [some (T.bor (.int n) 0), some (.bor s1 0), some (.fl ((acc ++ gsF ks n w).map .int)), w', s4'])
  | [], acc, w, s4, _, _, _ => ⟨_, _, by simp [gsF]; exact ⟨rfl, rfl⟩⟩
  | k :: r, acc, w, s4, hl, h0, h1 => by
    have p8 := pow8 r.length
    rw [List.length_cons, Int.pow_succ] at h0
    rw [List.length_cons] at hl
    have ha : acc.length < 1000000 := by omega
    cases hk : k.r with
    | true =>
      obtain ⟨w', s4', ih⟩ := lp_guess Γ n s1 r (acc ++ [n / (w / 8) % 8]) (w / 8) (some (.bor (.str k.s) 0)) (by simp; omega) (by omega) (by omega)
      have eb : evSs Cc Γ sub L1_guess_of [some (T.bor (.int n) 0), some (.bor s1 0), some (.fl (acc.map .int)), some (T.bor (.int w) 0), some (.bor (.str k.s) 0)] = .ok (.nx [some (T.bor (.int n) 0), some (.bor s1 0), some (.fl ((acc ++ [n / (w / 8) % 8]).map .int)), some (T.bor (.int (w / 8)) 0), some (.bor (.str k.s) 0)]) := by
        have w1 : 0 < w / 8 := by omega
        have w2 : w / 8 < 1073741824 := by omega
        simp [L1_guess_of, hk, ha, w1, w2]
      refine ⟨w', s4', ?_⟩
      rw [List.map_cons, forLoop_cons]
      simp only [bind_nm, List.length_cons, List.length_nil, List.set_cons_succ, List.set_cons_zero]
      simp only [loopB_some, eb, loopO_nx, ih, show (4 : Nat) < 0 + 1 + 1 + 1 + 1 + 1 from by decide, if_true]
      simp [gsF, hk]
    | false =>
      obtain ⟨w', s4', ih⟩ := lp_guess Γ n s1 r (acc ++ [n % 65536]) w (some (.bor (.str k.s) 0)) (by simp; omega) (by omega) (by omega)
      have eb : evSs Cc Γ sub L1_guess_of [some (T.bor (.int n) 0), some (.bor s1 0), some (.fl (acc.map .int)), some (T.bor (.int w) 0), some (.bor (.str k.s) 0)] = .ok (.nx [some (T.bor (.int n) 0), some (.bor s1 0), some (.fl ((acc ++ [n % 65536]).map .int)), some (T.bor (.int w) 0), some (.bor (.str k.s) 0)]) := by
        simp [L1_guess_of, hk, ha]
      refine ⟨w', s4', ?_⟩
      rw [List.map_cons, forLoop_cons]
      simp only [bind_nm, List.length_cons, List.length_nil, List.set_cons_succ, List.set_cons_zero]
      simp only [loopB_some, eb, loopO_nx, ih, show (4 : Nat) < 0 + 1 + 1 + 1 + 1 + 1 from by decide, if_true]
      simp [gsF, hk]
theorem mkTup_ins (w : Str) {ps : List Int} (h : ps.length ≤ 1000) : mkTup ((.str w, 0) :: ps.map ((fun d => (d, 0)) ∘ D.int)) = .ok (insD w ps, 0) := by
  unfold mkTup
  have m : maxLv (ps.map ((fun d => (d, 0)) ∘ D.int)) = 0 := maxLv_map0 D.int ps
  rw [if_pos (by simp; unfold sizeLine; omega)]
  simp [insD, m, upL]
def gsI (n : Int) : Option Ins := if 0 ≤ n / 134217728 ∧ n / 134217728 < 24 then some ⟨(n / 134217728).toNat, gsF (KS (n / 134217728).toNat) n 134217728⟩ else none
def oD : Option Ins → D
  | some i => i.D
  | none => .non
theorem sp_guess (k : Nat) (n : Int) : G (k + 1) 4 [.int n] = .ok (oD (gsI n)) := by
  rw [G_succ]
  show d_guess_of.run Cc sub (G k) _ = _
  rw [run_eq _ _ _ _ _ rfl]
  by_cases h : 0 ≤ n / 134217728 ∧ n / 134217728 < 24
  · obtain ⟨j, hj⟩ : ∃ j : Nat, n / 134217728 = j := ⟨(n / 134217728).toNat, by omega⟩
    have hj24 : j < 24 := by omega
    have h0 : (0 : Int) ≤ j := by omega
    have h24 : (j : Int) < 24 := by omega
    have l3 := ks_len j
    have p8 : (8 : Int) ^ (KS j).length ≤ 134217728 := by
      have h : (KS j).length = 0 ∨ (KS j).length = 1 ∨ (KS j).length = 2 ∨ (KS j).length = 3 := by omega
      rcases h with h | h | h | h <;> rw [h] <;> decide
    obtain ⟨w', s4', e⟩ := lp_guess (G k) n (.int j) (KS j) [] 134217728 none (by simp; omega) p8 (by decide)
    unfold gsI
    rw [if_pos h, hj]
    simp at e
    simp [d_guess_of, b_guess_of, startE, hj, h0, h24, ownL, tb1 j hj24, tb2 j hj24, e]
    rw [mkTup_ins _ (by rw [gsF_len]; omega)]
    simp [oD, Ins.D]
  · have h' : (!decide (0 ≤ n / 134217728) || !decide (n / 134217728 < 24)) = true := by
      by_cases h1 : 0 ≤ n / 134217728
      · have h2 : ¬ n / 134217728 < 24 := fun h2 => h ⟨h1, h2⟩
        simp [h2]
      · simp [h1]
    unfold gsI
    rw [if_neg h]
    simp [d_guess_of, b_guess_of, startE, h', oD]
theorem gsI_ok {n : Int} {i : Ins} (h : gsI n = some i) : i.Ok ∧ i.ps.length ≤ 3 := by
  unfold gsI at h
  split at h
  · rename_i hh
    cases h
    refine ⟨by show (n / 134217728).toNat < 24; omega, ?_⟩
    rw [gsF_len]; exact ks_len _
  · cases h
def inO (n many : Int) : Option Ins := (gsI n).filter fun i => i.good many && decide (i.wr = n)
theorem sp_inst (k : Nat) (n many : Int) : G (k + 3) 5 [.int n, .int many] = .ok (oD (inO n many)) := by
  rw [G_succ]
  show d_instruction_of.run Cc sub (G (k + 2)) _ = _
  rw [run_eq _ _ _ _ _ rfl]
  have e1 : callD (G (k + 2)) 4 [(.int n, 0)] = .ok (oD (gsI n), lvlOf (oD (gsI n)) 0) := callD_ok (sp_guess (k + 1) n)
  unfold inO
  cases hg : gsI n with
  | none =>
    rw [hg] at e1
    have e1 : callD (G (k + 2)) 4 [(.int n, 0)] = .ok (.non, 0) := e1
    simp [d_instruction_of, b_instruction_of, startE, e1, oD]
  | some i =>
    rw [hg] at e1
    have hi := gsI_ok hg
    have e1 : callD (G (k + 2)) 4 [(.int n, 0)] = .ok (i.D, 0) := e1
    have e2 : callD (G (k + 2)) 1 [(i.D, 0), (.int many, 0)] = .ok (.bl (i.good many), 0) := callD_ok (sp_isins k hi.1.w hi.1.k i.ps many)
    have e3 : callD (G (k + 2)) 3 [(i.D, 0)] = .ok (.int i.wr, 0) := callD_ok (sp_written (k + 1) hi.1)
    have e4 : i.D.isNon = false := rfl
    cases hb : i.good many <;> by_cases hw : i.wr = n <;> simp [d_instruction_of, b_instruction_of, startE, e1, e2, e3, e4, oD, hb, hw, Option.filter]
end Ev.K51
set_option Elab.async false
set_option linter.all false
set_option maxRecDepth 100000
set_option maxHeartbeats 1000000
namespace Ev
open PySem PySem.Spec PyProof.Rows L2
def Kd.l : Kd → Kd
  | .d => .d | .a => .d | .n => .n | .t => .t
@[simp] theorem kl_d (k : Kd) : (k.l = .d) = (k.r = true) := by cases k <;> simp [Kd.l, Kd.r]
@[simp] theorem kl_n (k : Kd) : (k.l = .n) = (k = .n) := by cases k <;> simp [Kd.l]
end Ev
namespace Ev.K51
open PySem PySem.Spec PyProof.Rows L2
def rowL (n : Nat) : D := .tup [.str (W n), .str (shS ((KS n).map Kd.l))]
def shpL : D := .lst ((List.range 24).map rowL)
theorem sp_shapes (k : Nat) : G (k + 1) 13 [] = .ok shpL := by kernel_rfl
@[simp] theorem c_shapes (k : Nat) : callD (G (k + 1)) 13 [] = .ok (shpL, 0) := callD_ok (sp_shapes k)
theorem W_inj : ∀ m n : Nat, m < 24 → n < 24 → W m = W n → m = n := by
  intro m n hm hn
  have h : (List.range 24).all (fun m => (List.range 24).all fun n => decide (W m = W n → m = n)) = true := by decide +kernel
  have h1 := List.all_eq_true.mp h m (List.mem_range.mpr hm)
  have h2 := List.all_eq_true.mp h1 n (List.mem_range.mpr hn)
  exact of_decide_eq_true h2
/-! ### the law's number -/
theorem lp_lwr (Γ : Fns) (s0 s1 s2 s3 : Option T) : ∀ (r : List (Int × Kd)) (f w : Int) (s6 s7 : Option T), 0 ≤ w → w ≤ 134217728 →
    ∃ w' s6' s7', forLoop (Tg.tp [Tg.nm 6 z q, Tg.nm 7 z q] 0 q).bind (evSs Cc Γ sub L3__law_written) (r.map fun p => (.tup [.int p.1, .str p.2.l.s], 0)) [s0, s1, s2, s3, some (T.bor (.int f) 0), some (T.bor (.int w) 0), s6, s7] = .ok (.nx [s0, s1, s2, s3, some (T.bor (.int (wrF r f w)) 0), w', s6', s7'])
  | [], f, w, s6, s7, _, _ => ⟨_, _, _, rfl⟩
  | (p, k) :: r, f, w, s6, s7, h0, h1 => by
    have h8 : small64 (w / 8) = true := s64_of (by omega) (by omega)
    cases hk : k.r with
    | true =>
      obtain ⟨w', s6', s7', ih⟩ := lp_lwr Γ s0 s1 s2 s3 r (f + p * (w / 8)) (w / 8) (some (.bor (.int p) 0)) (some (.bor (.str k.l.s) 0)) (by omega) (by omega)
      have eb : evSs Cc Γ sub L3__law_written [s0, s1, s2, s3, some (T.bor (.int f) 0), some (T.bor (.int w) 0), some (.bor (.int p) 0), some (.bor (.str k.l.s) 0)] = .ok (.nx [s0, s1, s2, s3, some (T.bor (.int (f + p * (w / 8))) 0), some (T.bor (.int (w / 8)) 0), some (.bor (.int p) 0), some (.bor (.str k.l.s) 0)]) := by
        simp [L3__law_written, hk, h8, mkLst]
      exact ⟨w', s6', s7', by simp [eb, ih, wrF, hk]⟩
    | false =>
      obtain ⟨w', s6', s7', ih⟩ := lp_lwr Γ s0 s1 s2 s3 r (f + p) w (some (.bor (.int p) 0)) (some (.bor (.str k.l.s) 0)) h0 h1
      have eb : evSs Cc Γ sub L3__law_written [s0, s1, s2, s3, some (T.bor (.int f) 0), some (T.bor (.int w) 0), some (.bor (.int p) 0), some (.bor (.str k.l.s) 0)] = .ok (.nx [s0, s1, s2, s3, some (T.bor (.int (f + p)) 0), some (T.bor (.int w) 0), some (.bor (.int p) 0), some (.bor (.str k.l.s) 0)]) := by
        simp [L3__law_written, hk, h8, mkLst]
      exact ⟨w', s6', s7', by simp [eb, ih, wrF, hk]⟩
theorem range24 {n : Nat} (h : n < 24) : (List.range 24).filter (fun m => decide (W m = W n)) = [n] := by
  have h1 : (List.range 24).all (fun n => decide ((List.range 24).filter (fun m => decide (W m = W n)) = [n])) = true := by decide +kernel
  exact of_decide_eq_true (List.all_eq_true.mp h1 n (List.mem_range.mpr h))
theorem at_shp {n : Nat} (h : n < 24) : atI ((List.range 24).map rowL) (n : Int) = some (rowL n) := atI_nat (by rw [List.getElem?_map, List.getElem?_range h]; rfl)
theorem sp_lwr (k : Nat) {i : Ins} (hi : i.Ok) : G (k + 2) 14 [i.D] = .ok (.int i.wr) := by
  rw [G_succ]
  show d__law_written.run Cc sub (G (k + 1)) _ = _
  rw [run_eq _ _ _ _ _ rfl]
  have hi : i.n < 24 := hi
  simp [d__law_written, b__law_written, startE, Ins.D, insD, cutD_tail, shpL, rg1R, rangeI]
  rw [lcLoop_map (enc := fun j : Nat => (D.int j, 0)) (g := fun j => (D.int j, 0)) (pred := fun j => decide (W j = W i.n)) (h := fun j hj => ⟨_, by simp; rfl, ?_, fun _ => ?_⟩)]
  · rw [range24 hi]
    obtain ⟨w', s6', s7', e⟩ := lp_lwr (G (k + 1)) (some (T.bor i.D 0)) (some (T.bor shpL 0)) (some (T.bor (.int i.n) 0)) none (i.ps.zip i.ks) (i.n * 134217728) 134217728 none none (by decide) (by decide)
    have e : forLoop (Tg.tp [Tg.nm 6 z q, Tg.nm 7 z q] 0 q).bind (evSs Cc (G (k + 1)) sub L3__law_written) ((i.ps.zip i.ks).map fun p => (.tup [.int p.1, .str p.2.l.s], 0)) [some (T.bor (.tup (.str i.w :: i.ps.map .int)) 0), some (T.bor (.lst ((List.range 24).map rowL)) 0), some (T.bor (.int i.n) 0), none, some (T.bor (.int (i.n * 134217728)) 0), some (T.bor (.int 134217728) 0), none, none] = _ := e
    simp [mkLst, at_shp hi, rowL, cutD_tail, List.zip_map_left]
    rw [e]
    simp [Ins.wr]
  · have hj : j < 24 := List.mem_range.mp hj
    simp [C2__law_written, at_shp hj, rowL]
  · simp [C1__law_written]
/-! ### the law's reading of a number -/
def loF : List Kd → Int → Int → List Int × Int
  | [], l, _ => ([], l)
  | k :: r, l, w => if k.r = true then let z := loF r (l % (w / 8)) (w / 8); (l / (w / 8) :: z.1, z.2) else let z := loF r 0 w; (l :: z.1, z.2)
theorem loF_len : ∀ (ks : List Kd) (n w : Int), (loF ks n w).1.length = ks.length
  | [], _, _ => rfl
  | k :: r, n, w => by
    unfold loF
    split <;> simp [loF_len r]
theorem lp_one (Γ : Fns) (s0 s1 s2 s4 s5 s9 : D) : ∀ (ks : List Kd) (acc : List Int) (l w : Int) (s8 : Option T), acc.length + ks.length ≤ 1000 → 8 ^ ks.length ≤ w → w ≤ 134217728 →
    ∃ w' s8', forLoop (Tg.nm 8 z q).bind (evSs Cc Γ sub L1__law_one) (ks.map fun k => (.str k.l.s, 0)) [some (.bor s0 0), some (.bor s1 0), some (.bor s2 0), some (T.bor (.int l) 0), some (.bor s4 0), some (.bor s5 0), some (T.bor (.int w) 0), some (.fl (acc.map .int)), s8, none] =
      .ok (.nx [some (.bor s0 0), some (.bor s1 0), some (.bor s2 0), some (T.bor (.int (loF ks l w).2) 0), some (.bor s4 0), some (.bor s5 0), w', some (.fl ((acc ++ (loF ks l w).1).map .int)), s8', none])
  | [], acc, l, w, s8, _, _, _ => ⟨_, _, by simp [loF]; exact ⟨rfl, rfl⟩⟩
  | k :: r, acc, l, w, s8, hl, h0, h1 => by
    have p8 := pow8 r.length
    rw [List.length_cons, Int.pow_succ] at h0
    rw [List.length_cons] at hl
    have ha : acc.length < 1000000 := by omega
    cases hk : k.r with
    | true =>
      obtain ⟨w', s8', ih⟩ := lp_one Γ s0 s1 s2 s4 s5 s9 r (acc ++ [l / (w / 8)]) (l % (w / 8)) (w / 8) (some (.bor (.str k.l.s) 0)) (by simp; omega) (by omega) (by omega)
      have eb : evSs Cc Γ sub L1__law_one [some (.bor s0 0), some (.bor s1 0), some (.bor s2 0), some (T.bor (.int l) 0), some (.bor s4 0), some (.bor s5 0), some (T.bor (.int w) 0), some (.fl (acc.map .int)), some (.bor (.str k.l.s) 0), none] = .ok (.nx [some (.bor s0 0), some (.bor s1 0), some (.bor s2 0), some (T.bor (.int (l % (w / 8))) 0), some (.bor s4 0), some (.bor s5 0), some (T.bor (.int (w / 8)) 0), some (.fl ((acc ++ [l / (w / 8)]).map .int)), some (.bor (.str k.l.s) 0), none]) := by
        have w1 : 0 < w / 8 := by omega
        have w2 : w / 8 < 1073741824 := by omega
        simp [L1__law_one, hk, ha, w1, w2]
      refine ⟨w', s8', ?_⟩
      rw [List.map_cons, forLoop_cons]
      simp only [bind_nm, List.length_cons, List.length_nil, List.set_cons_succ, List.set_cons_zero]
      simp only [loopB_some, eb, loopO_nx, ih, show (8 : Nat) < 0 + 1 + 1 + 1 + 1 + 1 + 1 + 1 + 1 + 1 + 1 from by decide, if_true]
      simp [loF, hk]
    | false =>
      obtain ⟨w', s8', ih⟩ := lp_one Γ s0 s1 s2 s4 s5 s9 r (acc ++ [l]) 0 w (some (.bor (.str k.l.s) 0)) (by simp; omega) (by omega) (by omega)
      have eb : evSs Cc Γ sub L1__law_one [some (.bor s0 0), some (.bor s1 0), some (.bor s2 0), some (T.bor (.int l) 0), some (.bor s4 0), some (.bor s5 0), some (T.bor (.int w) 0), some (.fl (acc.map .int)), some (.bor (.str k.l.s) 0), none] = .ok (.nx [some (.bor s0 0), some (.bor s1 0), some (.bor s2 0), some (T.bor (.int 0) 0), some (.bor s4 0), some (.bor s5 0), some (T.bor (.int w) 0), some (.fl ((acc ++ [l]).map .int)), some (.bor (.str k.l.s) 0), none]) := by
        simp [L1__law_one, hk, ha]
      refine ⟨w', s8', ?_⟩
      rw [List.map_cons, forLoop_cons]
      simp only [bind_nm, List.length_cons, List.length_nil, List.set_cons_succ, List.set_cons_zero]
      simp only [loopB_some, eb, loopO_nx, ih, show (8 : Nat) < 0 + 1 + 1 + 1 + 1 + 1 + 1 + 1 + 1 + 1 + 1 from by decide, if_true]
      simp [loF, hk]
/-- a part beyond its bound -/
def badP (many : Int) (p : Int × Kd) : Bool := !p.2.r && decide ((if p.2 = .n then 65535 else many) < p.1)
def lawI (n many : Int) : Option Ins := if 0 ≤ n ∧ n < 3221225472 then
    let j := (n / 134217728).toNat
    let z := loF (KS j) (n % 134217728) 134217728
    if z.2 = 0 ∧ (z.1.zip (KS j)).all (fun p => !badP many p) = true then some ⟨j, z.1⟩ else none
  else none
theorem sp_lone (k : Nat) (n many : Int) : G (k + 2) 15 [.int n, .int many] = .ok (oD (lawI n many)) := by
  rw [G_succ]
  show d__law_one.run Cc sub (G (k + 1)) _ = _
  rw [run_eq _ _ _ _ _ rfl]
  by_cases h : 0 ≤ n ∧ n < 3221225472
  · obtain ⟨j, hj⟩ : ∃ j : Nat, n / 134217728 = j := ⟨(n / 134217728).toNat, by omega⟩
    have hj24 : j < 24 := by omega
    have h0 : 0 ≤ n := h.1
    have h1 : n < 3221225472 := h.2
    have l3 := ks_len j
    have p8 : (8 : Int) ^ (KS j).length ≤ 134217728 := by
      have h : (KS j).length = 0 ∨ (KS j).length = 1 ∨ (KS j).length = 2 ∨ (KS j).length = 3 := by omega
      rcases h with h | h | h | h <;> rw [h] <;> decide
    obtain ⟨w', s8', e⟩ := lp_one (G (k + 1)) (.int n) (.int many) shpL (.str (W j)) (.str (shS ((KS j).map Kd.l))) .non (KS j) [] (n % 134217728) 134217728 none (by simp; omega) p8 (by decide)
    unfold lawI
    rw [if_pos h]
    simp [shpL] at e
    have e : forLoop (Tg.nm 8 z q).bind (evSs Cc (G (k + 1)) sub L1__law_one) (List.map ((fun k => (D.str k.s, 0)) ∘ Kd.l) (KS j))
      [some (T.bor (D.int n) 0), some (T.bor (D.int many) 0), some (T.bor (D.lst (List.map rowL (List.range 24))) 0),
        some (T.bor (D.int (n % 134217728)) 0), some (T.bor (D.str (W j)) 0),
        some (T.bor (D.str (shS (List.map Kd.l (KS j)))) 0), some (T.bor (D.int 134217728) 0), some (T.fl []), none,
        none] = _ := e
    have hz := loF_len (KS j) (n % 134217728) 134217728
    have en : (n / 134217728).toNat = j := by omega
    rw [en]
    dsimp only
    generalize loF (KS j) (n % 134217728) 134217728 = zz at e hz ⊢
    obtain ⟨ps, l⟩ := zz
    dsimp only at e hz ⊢
    simp [d__law_one, b__law_one, startE, h0, h1, hj, shpL, at_shp hj24, rowL, ownL, e]
    rw [lcLoop_map (enc := fun p : Int × Kd => (D.tup [.int p.1, .str p.2.l.s], 0)) (g := fun p => (D.int p.1, 0)) (pred := badP many) (h := fun p hp => ⟨_, by simp; rfl, ?_, fun _ => ?_⟩)]
    · have e2 : ap2 (cmpE .NotEq) (ap1 mkLst (R.ok (List.map (fun p => (D.int p.fst, 0)) (List.filter (badP many) (ps.zip (KS j)))))) (mkLst []) = .ok (.bl (!decide (((ps.zip (KS j)).filter (badP many)).map (·.1) = [])), 0) := by
        have q : ((ps.zip (KS j)).filter (badP many)).length ≤ sizeLine := by
          have := List.length_filter_le (badP many) (ps.zip (KS j))
          rw [List.length_zip] at this
          unfold sizeLine; omega
        rw [ap1_ok, mkLst_map _ _ q]
        have := cmp_ne_iL (((ps.zip (KS j)).filter (badP many)).map (·.1)) [] 0 0
        unfold iL at this
        rw [List.map_map] at this
        exact this
      rw [e2]
      have hB : decide (((ps.zip (KS j)).filter (badP many)).map (·.1) = []) = (ps.zip (KS j)).all fun p => !badP many p := by
        rw [Bool.eq_iff_iff, decide_eq_true_iff, List.map_eq_nil_iff, List.filter_eq_nil_iff, List.all_eq_true]
        constructor
        · intro h p hp
          have := h p hp
          simpa using this
        · intro h p hp
          have := h p hp
          simpa using this
      rw [hB]
      have hps : ps.length ≤ 1000 := by omega
      have ht : (1 : Nat) + ps.length ≤ sizeLine := by unfold sizeLine; omega
      cases hb : (ps.zip (KS j)).all fun p => !badP many p with
      | true =>
        by_cases hl : l = 0
        · simp [hl, mkTup, ht, oD, Ins.D, insD]
        · simp [hl, oD]
      | false => simp [oD]
    · cases hr : p.2.r
      · by_cases hn : p.2 = .n <;> simp [C3__law_one, badP, hr, hn, mkLst]
      · simp [C3__law_one, badP, hr]
    · simp [C2__law_one]
  · have h' : (!decide (0 ≤ n) || !decide (n < 3221225472)) = true := by
      by_cases h1 : 0 ≤ n
      · have h2 : ¬ n < 3221225472 := fun h2 => h ⟨h1, h2⟩
        simp [h2]
      · simp [h1]
    unfold lawI
    rw [if_neg h]
    simp [d__law_one, b__law_one, startE, shpL, h', oD]
end Ev.K51
set_option Elab.async false
set_option linter.all false
set_option maxRecDepth 100000
set_option maxHeartbeats 4000000
namespace Ev.K51
open PySem PySem.Spec PyProof.Rows L2
theorem ks_sh (j : Nat) : KS j = [] ∨ KS j = [.d, .n] ∨ KS j = [.d, .a, .a] ∨ KS j = [.d, .a, .n] ∨ KS j = [.a, .a, .n] ∨ KS j = [.a, .a, .t] ∨ KS j = [.t] ∨ KS j = [.d, .t] ∨ KS j = [.a] ∨ KS j = [.d, .a] := by
  unfold KS
  split <;> decide
theorem okI_iff (ks : List Kd) (ps : List Int) (many : Int) : okI ks ps many = true ↔ ks.length = ps.length ∧ ∀ p ∈ ps.zip ks, 0 ≤ p.1 ∧ p.1 < bdK p.2 many := by
  unfold okI
  rw [Bool.and_eq_true, decide_eq_true_iff, List.all_eq_true]
  simp
theorem read_iff (j : Nat) (n many : Int) (hn : n / 134217728 = j) (hm : 0 ≤ many) (hm2 : many ≤ 65535) :
    ((loF (KS j) (n % 134217728) 134217728).2 = 0 ∧ ((loF (KS j) (n % 134217728) 134217728).1.zip (KS j)).all (fun p => !badP many p) = true) ↔
    (okI (KS j) (gsF (KS j) n 134217728) many = true ∧ wrF ((gsF (KS j) n 134217728).zip (KS j)) (j * 134217728) 134217728 = n) := by
  rw [okI_iff]
  rcases ks_sh j with h | h | h | h | h | h | h | h | h | h <;> rw [h] <;> simp [loF, gsF, wrF, badP, bdK, Kd.r] <;> omega
theorem read_eq (j : Nat) (n many : Int) (hn : n / 134217728 = j) (hm : 0 ≤ many) (hm2 : many ≤ 65535) (hw : wrF ((gsF (KS j) n 134217728).zip (KS j)) (j * 134217728) 134217728 = n) : (loF (KS j) (n % 134217728) 134217728).1 = gsF (KS j) n 134217728 := by
  revert hw
  rcases ks_sh j with h | h | h | h | h | h | h | h | h | h <;> rw [h] <;> simp [loF, gsF, wrF, Kd.r] <;> omega
theorem lawI_eq {n many : Int} (hm : 0 ≤ many) (hm2 : many ≤ 65535) : lawI n many = inO n many := by
  unfold lawI inO gsI
  by_cases h : 0 ≤ n ∧ n < 3221225472
  · obtain ⟨j, hj⟩ : ∃ j : Nat, n / 134217728 = j := ⟨(n / 134217728).toNat, by omega⟩
    have en : (n / 134217728).toNat = j := by omega
    rw [if_pos h, if_pos (show 0 ≤ n / 134217728 ∧ n / 134217728 < 24 by omega), en]
    dsimp only
    have z := read_iff j n many hj hm hm2
    by_cases c : okI (KS j) (gsF (KS j) n 134217728) many = true ∧ wrF ((gsF (KS j) n 134217728).zip (KS j)) (j * 134217728) 134217728 = n
    · rw [if_pos (z.mpr c), read_eq j n many hj hm hm2 c.2]
      simp [Option.filter, Ins.good, Ins.wr, c.1, c.2]
    · rw [if_neg (fun q => c (z.mp q))]
      have c2 : (Ins.good ⟨j, gsF (KS j) n 134217728⟩ many && decide (Ins.wr ⟨j, gsF (KS j) n 134217728⟩ = n)) = false := by
        cases e : (Ins.good ⟨j, gsF (KS j) n 134217728⟩ many && decide (Ins.wr ⟨j, gsF (KS j) n 134217728⟩ = n)) with
        | false => rfl
        | true =>
          simp only [Bool.and_eq_true, decide_eq_true_eq] at e
          exact absurd e c
      simp [Option.filter, c2]
  · rw [if_neg h, if_neg (show ¬ (0 ≤ n / 134217728 ∧ n / 134217728 < 24) by omega)]
    rfl
end Ev.K51
set_option Elab.async false
set_option linter.all false
set_option maxRecDepth 100000
set_option maxHeartbeats 1000000
namespace Ev.K51
open PySem PySem.Spec PyProof.Rows L2
/-! ### the parts of an image -/
theorem at_iL {ns : List Int} {k : Nat} (h : k < ns.length) : atI (ns.map D.int) (k : Int) = some (.int ns[k]) := atI_nat (by rw [List.getElem?_map, List.getElem?_eq_getElem h]; rfl)
def rd (ns : List Int) (many : Int) (k : Nat) : Option Ins := (ns[k]?).bind (inO · many)
def cdF (ns : List Int) (many : Int) : Nat → Nat → List Ins → Except Nat (List Ins)
  | _, 0, acc => .ok acc
  | k, n + 1, acc => match rd ns many k with
    | none => .error (min k ns.length)
    | some i => cdF ns many (k + 1) n (acc ++ [i])
def errT (e : Nat) : D := .tup [.non, .int e]
theorem lp_code (k0 : Nat) (ns : List Int) (hl : ns.length ≤ 100000) (many : Int) : ∀ (n k : Nat) (acc : List Ins) (s3 s4 : Option T), acc.length ≤ k →
    ∃ s3' s4', forLoop (Tg.nm 3 z q).bind (evSs Cc (G (k0 + 3)) sub L1_code_in) (rangeI k n) [some (T.bor (iL ns) 0), some (T.bor (.int many) 0), some (.fl (acc.map Ins.D)), s3, s4] = match cdF ns many k n acc with
    | .ok c => .ok (.nx [some (T.bor (iL ns) 0), some (T.bor (.int many) 0), some (.fl (c.map Ins.D)), s3', s4'])
    | .error e => .ok (.rt (errT e))
  | 0, k, acc, s3, s4, _ => ⟨s3, s4, rfl⟩
  | n + 1, k, acc, s3, s4, ha => by
    rw [rangeI_succ]
    simp only [forLoop_cons, bind_nm, List.length_cons, List.length_nil, List.set_cons_succ, List.set_cons_zero, loopB_some, show (3 : Nat) < 0 + 1 + 1 + 1 + 1 + 1 from by decide, if_true]
    by_cases hk : k < ns.length
    · have hk' : (k : Int) < ns.length := by omega
      have e1 : callD (G (k0 + 3)) 5 [(.int ns[k], 0), (.int many, 0)] = .ok (oD (inO ns[k] many), lvlOf (oD (inO ns[k] many)) 0) := callD_ok (sp_inst k0 ns[k] many)
      have er : rd ns many k = inO ns[k] many := by unfold rd; rw [List.getElem?_eq_getElem hk]; rfl
      unfold cdF
      rw [er]
      cases hi : inO ns[k] many with
      | none =>
        rw [hi] at e1
        have e1 : callD (G (k0 + 3)) 5 [(.int ns[k], 0), (.int many, 0)] = .ok (.non, 0) := e1
        refine ⟨none, none, ?_⟩
        simp [L1_code_in, iL, hk', at_iL hk, e1, errT, mkTup, upL]
        omega
      | some i =>
        rw [hi] at e1
        have e1 : callD (G (k0 + 3)) 5 [(.int ns[k], 0), (.int many, 0)] = .ok (i.D, 0) := e1
        have ha' : acc.length < 1000000 := by omega
        obtain ⟨s3', s4', ih⟩ := lp_code k0 ns hl many n (k + 1) (acc ++ [i]) (some (.bor (.int k) 0)) (some (.bor i.D 0)) (by rw [List.length_append]; simp; omega)
        have e4 : i.D.isNon = false := rfl
        have eb : evSs Cc (G (k0 + 3)) sub L1_code_in [some (T.bor (iL ns) 0), some (T.bor (.int many) 0), some (.fl (acc.map Ins.D)), some (.bor (.int k) 0), s4] = .ok (.nx [some (T.bor (iL ns) 0), some (T.bor (.int many) 0), some (.fl ((acc ++ [i]).map Ins.D)), some (.bor (.int k) 0), some (.bor i.D 0)]) := by
          simp [L1_code_in, iL, hk', at_iL hk, e1, e4, ha']
        refine ⟨s3', s4', ?_⟩
        rw [eb, loopO_nx]
        exact ih
    · have hk' : ¬ (k : Int) < ns.length := by omega
      have er : rd ns many k = none := by unfold rd; rw [List.getElem?_eq_none (by omega)]; rfl
      unfold cdF
      rw [er]
      refine ⟨none, none, ?_⟩
      simp [L1_code_in, iL, hk', errT, mkTup, upL]
      omega
def exD {α : Type} (f : α → D) : Except Nat α → D
  | .ok c => .tup [f c, .int 0]
  | .error e => errT e
theorem sp_codein (k : Nat) {ns : List Int} (hl : ns.length ≤ 100000) (many : Nat) (hm : many ≤ 65535) : G (k + 4) 7 [iL ns, .int many] = .ok (exD codeD (cdF ns many 2 many [])) := by
  rw [G_succ]
  show d_code_in.run Cc sub (G (k + 3)) _ = _
  rw [run_eq _ _ _ _ _ rfl]
  obtain ⟨s3', s4', e⟩ := lp_code k ns hl many many 2 [] none none (by simp)
  have h2 : small62 (2 + (many : Int)) = true := by unfold small62; rw [decide_eq_true (show -(2 ^ 62) ≤ 2 + (many : Int) by omega), decide_eq_true (show 2 + (many : Int) < 2 ^ 62 by omega)]; rfl
  have e : forLoop (Tg.nm 3 z q).bind (evSs Cc (G (k + 3)) sub L1_code_in) (rangeI 2 many) [some (T.bor (iL ns) 0), some (T.bor (.int many) 0), some (.fl []), none, none] = _ := e
  have e3 : (2 + (many : Int) - 2).toNat = many := by omega
  simp [d_code_in, b_code_in, startE, ownL, rg2R, h2, e3, e]
  cases cdF ns many 2 many [] with
  | ok c => simp [mkTup, upL, exD, codeD]
  | error e => simp [exD]
/-! data -/
def dtF (ns : List Int) : Nat → Nat → List (Int × D) → Int → Except Nat (List (Int × D))
  | _, 0, acc, _ => .ok acc
  | k, n + 1, acc, b => match ns[k]? with
    | none => .error (min k ns.length)
    | some v => if b < v / 65536 ∧ v / 65536 < 64 then dtF ns (k + 1) n (dpI acc (v / 65536) (.int (v % 65536))) (v / 65536) else .error (min k ns.length)
theorem dpI_len (kvs : List (Int × D)) (y : Int) (d : D) : (dpI kvs y d).length ≤ kvs.length + 1 := by
  unfold dpI
  split
  · simp
  · simp
theorem lp_data (Γ : Fns) (s1 s2 : D) (ns : List Int) (hl : ns.length ≤ 100000) : ∀ (n k : Nat) (acc : List (Int × D)) (b : Int) (s5 : Option T), acc.length ≤ k →
    ∃ b' s5', forLoop (Tg.nm 5 z q).bind (evSs Cc Γ sub L1_data_in) (rangeI k n) [some (T.bor (iL ns) 0), some (T.bor s1 0), some (T.bor s2 0), some (.fd false (dI acc)), some (T.bor (.int b) 0), s5] = match dtF ns k n acc b with
    | .ok c => .ok (.nx [some (T.bor (iL ns) 0), some (T.bor s1 0), some (T.bor s2 0), some (.fd false (dI c)), b', s5'])
    | .error e => .ok (.rt (errT e))
  | 0, k, acc, b, s5, _ => ⟨_, s5, rfl⟩
  | n + 1, k, acc, b, s5, ha => by
    rw [rangeI_succ]
    simp only [forLoop_cons, bind_nm, List.length_cons, List.length_nil, List.set_cons_succ, List.set_cons_zero, loopB_some, show (5 : Nat) < 0 + 1 + 1 + 1 + 1 + 1 + 1 from by decide, if_true]
    by_cases hk : k < ns.length
    · have hk' : ¬ (ns.length : Int) ≤ k := by omega
      unfold dtF
      rw [List.getElem?_eq_getElem hk]
      dsimp only
      by_cases hc : b < ns[k] / 65536 ∧ ns[k] / 65536 < 64
      · have hd : (dI acc).length < 1000000 := by unfold dI; rw [List.length_map]; omega
        obtain ⟨b', s5', ih⟩ := lp_data Γ s1 s2 ns hl n (k + 1) (dpI acc (ns[k] / 65536) (.int (ns[k] % 65536))) (ns[k] / 65536) (some (.bor (.int k) 0)) (by have := dpI_len acc (ns[k] / 65536) (.int (ns[k] % 65536)); omega)
        have eb : evSs Cc Γ sub L1_data_in [some (T.bor (iL ns) 0), some (T.bor s1 0), some (T.bor s2 0), some (.fd false (dI acc)), some (T.bor (.int b) 0), some (.bor (.int k) 0)] = .ok (.nx [some (T.bor (iL ns) 0), some (T.bor s1 0), some (T.bor s2 0), some (.fd false (dI (dpI acc (ns[k] / 65536) (.int (ns[k] % 65536))))), some (T.bor (.int (ns[k] / 65536)) 0), some (.bor (.int k) 0)]) := by
          simp [L1_data_in, iL, hk', at_iL hk, hc.1, hc.2, hd, D.key, dput_dI]
        refine ⟨b', s5', ?_⟩
        rw [if_pos hc, eb, loopO_nx]
        exact ih
      · refine ⟨none, none, ?_⟩
        have hc' : (!decide (b < ns[k] / 65536) || !decide (ns[k] / 65536 < 64)) = true := by
          by_cases h1 : b < ns[k] / 65536
          · have h2 : ¬ ns[k] / 65536 < 64 := fun h2 => hc ⟨h1, h2⟩
            simp [h2]
          · simp [h1]
        rw [if_neg hc]
        simp [L1_data_in, iL, hk', at_iL hk, hc', errT, mkTup, upL]
        omega
    · have hk' : (ns.length : Int) ≤ k := by omega
      unfold dtF
      rw [List.getElem?_eq_none (by omega)]
      refine ⟨none, none, ?_⟩
      simp [L1_data_in, iL, hk', errT, mkTup, upL]
      omega
def dctD (d : List (Int × D)) : D := .dct false (dI d)
theorem s62_of {i : Int} (h0 : -1000000 ≤ i) (h1 : i ≤ 1000000) : small62 i = true := by
  unfold small62
  rw [decide_eq_true (show -(2 ^ 62) ≤ i by omega), decide_eq_true (show i < 2 ^ 62 by omega)]; rfl
theorem sp_datain (k : Nat) {ns : List Int} (hl : ns.length ≤ 100000) (start many : Nat) (hs : start ≤ 100000) (hm : many ≤ 65535) : G (k + 1) 8 [iL ns, .int start, .int many] = .ok (exD dctD (dtF ns start many [] (-1))) := by
  rw [G_succ]
  show d_data_in.run Cc sub (G k) _ = _
  rw [run_eq _ _ _ _ _ rfl]
  obtain ⟨b', s5', e⟩ := lp_data (G k) (.int start) (.int many) ns hl many start [] (-1) none (by simp)
  have h1 : small62 (start : Int) = true := s62_of (by omega) (by omega)
  have h2 : small62 ((start : Int) + many) = true := s62_of (by omega) (by omega)
  have e : forLoop (Tg.nm 5 z q).bind (evSs Cc (G k) sub L1_data_in) (rangeI start many) [some (T.bor (iL ns) 0), some (T.bor (.int start) 0), some (T.bor (.int many) 0), some (.fd false []), some (T.bor (.int (-1)) 0), none] = _ := e
  have e3 : ((start : Int) + many - start).toNat = many := by omega
  simp [d_data_in, b_data_in, startE, rg2R, h1, h2, e3, e]
  cases dtF ns start many [] (-1) with
  | ok c => simp [mkTup, upL, exD, dctD]
  | error e => simp [exD]
def cnt (ns : List Int) (k : Nat) (most : Int) : Option Nat := match ns[k]? with
  | none => none
  | some v => if 0 ≤ v ∧ v ≤ most then some v.toNat else none
def oI : Option Nat → D
  | some v => .int v
  | none => .non
theorem sp_count (k : Nat) {ns : List Int} (j : Nat) (most : Int) : G (k + 1) 9 [iL ns, .int j, .int most] = .ok (oI (cnt ns j most)) := by
  rw [G_succ]
  show d_count_at.run Cc sub (G k) _ = _
  rw [run_eq _ _ _ _ _ rfl]
  unfold cnt
  by_cases hk : j < ns.length
  · have hk' : (j : Int) < ns.length := by omega
    rw [List.getElem?_eq_getElem hk]
    dsimp only
    by_cases hc : 0 ≤ ns[j] ∧ ns[j] ≤ most
    · rw [if_pos hc]
      simp [d_count_at, b_count_at, startE, iL, hk', at_iL hk, hc.1, hc.2, oI]
      omega
    · have hc' : (decide (0 ≤ ns[j]) && decide (ns[j] ≤ most)) = false := by
        cases e : (decide (0 ≤ ns[j]) && decide (ns[j] ≤ most)) with
        | false => rfl
        | true => simp at e; exact absurd e hc
      rw [if_neg hc]
      simp [d_count_at, b_count_at, startE, iL, hk', at_iL hk, hc', oI]
  · have hk' : ¬ (j : Int) < ns.length := by omega
    rw [List.getElem?_eq_none (by omega)]
    simp [d_count_at, b_count_at, startE, iL, hk', oI]
end Ev.K51
set_option Elab.async false
set_option linter.all false
set_option maxRecDepth 100000
set_option maxHeartbeats 1000000
namespace Ev.K51
open PySem PySem.Spec PyProof.Rows L2
def readP (ns : List Int) : Except Nat (List Ins × List (Int × D)) :=
  if ns.length = 0 ∨ ns.getD 0 0 ≠ 23588 then .error 0 else match cnt ns 1 65535 with
  | none => .error 1
  | some many => match cdF ns many 2 many [] with
    | .error e => .error e
    | .ok c => match cnt ns (2 + many) 64 with
      | none => .error (2 + many)
      | some words => match dtF ns (3 + many) words [] (-1) with
        | .error e => .error e
        | .ok d =>
          if ns.length ≠ 3 + many + words + 1 then .error (min (3 + many + words + 1) ns.length)
          else if ns.getD (3 + many + words) 0 ≠ (ns.take (3 + many + words)).sum % 4294967296 then .error (3 + many + words) else .ok (c, d)
theorem cnt_le {ns : List Int} {k : Nat} {most : Int} {v : Nat} (h : cnt ns k most = some v) : (v : Int) ≤ most ∧ k < ns.length ∧ ns.getD k 0 = v := by
  unfold cnt at h
  split at h
  · cases h
  · rename_i w hw
    split at h
    · rename_i hc
      cases h
      have := (List.getElem?_eq_some_iff.mp hw)
      refine ⟨by omega, this.1, ?_⟩
      rw [List.getD_eq_getElem?_getD, hw]
      simp; omega
    · cases h
def rdR : Except Nat (List Ins × List (Int × D)) → R D
  | .ok (c, d) => .ok (.tup [codeD c, dctD d])
  | .error e => .exc "BadImage" (.int e)
theorem cutD_take (xs : List D) {n : Nat} (h : n ≤ xs.length) : cutD xs none (some (n : Int)) = xs.take n := by
  have e : HT.sIx xs.length xs.length (some (n : Int)) = n := by
    unfold HT.sIx
    simp
    split <;> omega
  unfold cutD
  rw [e]
  show (xs.drop 0).take (n - 0) = _
  simp
theorem at_iL0 {ns : List Int} (h : 0 < ns.length) : atI (ns.map D.int) 0 = some (.int (ns.getD 0 0)) := by
  cases ns with
  | nil => simp at h
  | cons a l => simp
theorem sp_read (k : Nat) {ns : List Int} (hl : ns.length ≤ 100000) : G (k + 5) 10 [iL ns] = rdR (readP ns) := by
  rw [G_succ]
  show d_read_image.run Cc sub (G (k + 4)) _ = _
  rw [run_eq _ _ _ _ _ rfl]
  unfold readP
  by_cases h0 : ns.length = 0
  · rw [if_pos (.inl h0)]
    simp [d_read_image, b_read_image, startE, iL, h0, rdR]
  by_cases h1 : ns.getD 0 0 ≠ 23588
  · rw [if_pos (.inr h1)]
    have h1 : ¬ ns.getD 0 0 = 23588 := h1
    simp only [List.getD_eq_getElem?_getD] at h1
    simp [d_read_image, b_read_image, startE, iL, h0, rdR, at_iL0 (by omega : 0 < ns.length), h1]
  have h1 : ns.getD 0 0 = 23588 := Classical.not_not.mp h1
  rw [if_neg (fun h => h.elim h0 fun q => q h1)]
  have h0' : (ns.map D.int).length ≠ 0 := by rw [List.length_map]; exact h0
  have a0 := at_iL0 (by omega : 0 < ns.length)
  rw [h1] at a0
  have e1 : callD (G (k + 4)) 9 [(iL ns, 0), (.int 1, 0), (.int 65535, 0)] = .ok (oI (cnt ns 1 65535), lvlOf (oI (cnt ns 1 65535)) 0) := callD_ok (sp_count (k + 3) 1 65535)
  cases c1 : cnt ns 1 65535 with
  | none =>
    rw [c1] at e1
    have e1 : callD (G (k + 4)) 9 [(.lst (ns.map .int), 0), (.int 1, 0), (.int 65535, 0)] = .ok (.non, 0) := e1
    simp [d_read_image, b_read_image, startE, iL, h0, rdR, a0, e1]
  | some many =>
    rw [c1] at e1
    have e1 : callD (G (k + 4)) 9 [(.lst (ns.map .int), 0), (.int 1, 0), (.int 65535, 0)] = .ok (.int many, 0) := e1
    have m1 := cnt_le c1
    have e2 : callD (G (k + 4)) 7 [(iL ns, 0), (.int many, 0)] = .ok (exD codeD (cdF ns many 2 many []), lvlOf (exD codeD (cdF ns many 2 many [])) 0) := callD_ok (sp_codein k hl many (by omega))
    dsimp only
    cases c2 : cdF ns many 2 many [] with
    | error e =>
      rw [c2] at e2
      have e2 : callD (G (k + 4)) 7 [(.lst (ns.map .int), 0), (.int many, 0)] = .ok (.tup [.non, .int e], 0) := e2
      simp [d_read_image, b_read_image, startE, iL, h0, rdR, a0, e1, e2]
    | ok c =>
      rw [c2] at e2
      have e2 : callD (G (k + 4)) 7 [(.lst (ns.map .int), 0), (.int many, 0)] = .ok (.tup [codeD c, .int 0], 0) := e2
      have e3 : callD (G (k + 4)) 9 [(iL ns, 0), (.int ((2 + many : Nat) : Int), 0), (.int 64, 0)] = .ok (oI (cnt ns (2 + many) 64), lvlOf (oI (cnt ns (2 + many) 64)) 0) := callD_ok (sp_count (k + 3) (2 + many) 64)
      rw [show ((2 + many : Nat) : Int) = 2 + (many : Int) by omega] at e3
      have cn : (codeD c).isNon = false := rfl
      dsimp only
      cases c3 : cnt ns (2 + many) 64 with
      | none =>
        rw [c3] at e3
        have e3 : callD (G (k + 4)) 9 [(.lst (ns.map .int), 0), (.int (2 + (many : Int)), 0), (.int 64, 0)] = .ok (.non, 0) := e3
        simp [d_read_image, b_read_image, startE, iL, h0, rdR, a0, e1, e2, e3, cn]
      | some words =>
        rw [c3] at e3
        have e3 : callD (G (k + 4)) 9 [(.lst (ns.map .int), 0), (.int (2 + (many : Int)), 0), (.int 64, 0)] = .ok (.int words, 0) := e3
        have m3 := cnt_le c3
        have e4 : callD (G (k + 4)) 8 [(iL ns, 0), (.int ((3 + many : Nat) : Int), 0), (.int words, 0)] = .ok (exD dctD (dtF ns (3 + many) words [] (-1)), lvlOf (exD dctD (dtF ns (3 + many) words [] (-1))) 0) := callD_ok (sp_datain (k + 3) hl (3 + many) words (by omega) (by omega))
        rw [show ((3 + many : Nat) : Int) = 3 + (many : Int) by omega] at e4
        dsimp only
        cases c4 : dtF ns (3 + many) words [] (-1) with
        | error e =>
          rw [c4] at e4
          have e4 : callD (G (k + 4)) 8 [(.lst (ns.map .int), 0), (.int (3 + (many : Int)), 0), (.int words, 0)] = .ok (.tup [.non, .int e], 0) := e4
          simp [d_read_image, b_read_image, startE, iL, h0, rdR, a0, e1, e2, e3, e4, cn]
        | ok d =>
          rw [c4] at e4
          have e4 : callD (G (k + 4)) 8 [(.lst (ns.map .int), 0), (.int (3 + (many : Int)), 0), (.int words, 0)] = .ok (.tup [dctD d, .int 0], 0) := e4
          have dn : (dctD d).isNon = false := rfl
          dsimp only
          by_cases hL : ns.length ≠ 3 + many + words + 1
          · rw [if_pos hL]
            have hL' : ¬ (ns.length : Int) = 3 + many + words + 1 := by omega
            simp [d_read_image, b_read_image, startE, iL, h0, rdR, a0, e1, e2, e3, e4, cn, dn, hL']
            omega
          · rw [if_neg hL]
            have hL' : (ns.length : Int) = 3 + many + words + 1 := by omega
            have hi : 3 + many + words < ns.length := by omega
            have hZ : ¬ 3 + (many : Int) + words + 1 = 0 := by omega
            have ai := at_iL hi
            rw [show ((3 + many + words : Nat) : Int) = 3 + (many : Int) + words by omega] at ai
            have ct : cutD (ns.map D.int) none (some (3 + (many : Int) + words)) = (ns.take (3 + many + words)).map D.int := by
              have := cutD_take (ns.map D.int) (n := 3 + many + words) (by rw [List.length_map]; omega)
              rw [show ((3 + many + words : Nat) : Int) = 3 + (many : Int) + words by omega] at this
              rw [this, List.map_take]
            have gd : ns.getD (3 + many + words) 0 = ns[3 + many + words] := by rw [List.getD_eq_getElem?_getD, List.getElem?_eq_getElem hi]; rfl
            rw [gd]
            generalize ns.take (3 + many + words) = tk at ct ⊢
            by_cases hs : ns[3 + many + words] = tk.sum % 4294967296
            · rw [if_neg (fun h => h hs)]
              simp [d_read_image, b_read_image, startE, iL, h0, rdR, a0, e1, e2, e3, e4, cn, dn, hL', hZ, ai, ct, hs, mkTup, upL]
            · rw [if_pos hs]
              simp [d_read_image, b_read_image, startE, iL, h0, rdR, a0, e1, e2, e3, e4, cn, dn, hL', hZ, ai, ct, hs]
end Ev.K51
set_option Elab.async false
set_option linter.all false
set_option maxRecDepth 100000
set_option maxHeartbeats 1000000
namespace Ev.K51
open PySem PySem.Spec PyProof.Rows L2
theorem cdF_split (ns : List Int) (many : Int) : ∀ (n m k : Nat) (acc : List Ins), cdF ns many k (n + m) acc = match cdF ns many k n acc with
    | .error e => .error e
    | .ok c => cdF ns many (k + n) m c
  | 0, m, k, acc => by rw [Nat.zero_add]; rfl
  | n + 1, m, k, acc => by
    rw [show n + 1 + m = (n + m) + 1 by omega]
    unfold cdF
    cases rd ns many k with
    | none => rfl
    | some i =>
      dsimp only
      rw [cdF_split ns many n m (k + 1), show k + 1 + n = k + (n + 1) by omega]
      cases cdF ns many (k + 1) n (acc ++ [i]) with
      | error e => rfl
      | ok c =>
        dsimp only
        rw [cdF.eq_def]
theorem dtF_split (ns : List Int) : ∀ (n m k : Nat) (acc : List (Int × D)) (b : Int), (∃ e, dtF ns k n acc b = .error e ∧ dtF ns k (n + m) acc b = .error e) ∨ ∃ c b', dtF ns k n acc b = .ok c ∧ dtF ns k (n + m) acc b = dtF ns (k + n) m c b'
  | 0, m, k, acc, b => .inr ⟨acc, b, rfl, by rw [Nat.zero_add]; rfl⟩
  | n + 1, m, k, acc, b => by
    rw [show n + 1 + m = (n + m) + 1 by omega]
    unfold dtF
    cases ns[k]? with
    | none => exact .inl ⟨_, rfl, rfl⟩
    | some v =>
      dsimp only
      split
      · rw [show k + (n + 1) = k + 1 + n by omega]
        rcases dtF_split ns n m (k + 1) (dpI acc (v / 65536) (.int (v % 65536))) (v / 65536) with h | ⟨c, b', h1, h2⟩
        · exact .inl h
        · refine .inr ⟨c, b', h1, ?_⟩
          rw [h2]
          cases m <;> rfl
      · exact .inl ⟨_, rfl, rfl⟩
theorem lp_lcode (k0 : Nat) (ns : List Int) (hl : ns.length ≤ 100000) (many : Nat) (hm : many ≤ 65535) (s1 : D) (s4 : List (D × D)) (s5 : D) (s8 s9 : Option T) : ∀ (n k : Nat) (acc : List Ins) (s6 s7 : Option T), acc.length ≤ k → k + n ≤ ns.length →
    ∃ s6' s7', forLoop (Tg.nm 6 z q).bind (evSs Cc (G (k0 + 2)) sub L1__law_read) (rangeI k n) [some (T.bor (iL ns) 0), some (T.bor s1 0), some (T.bor (.int many) 0), some (.fl (acc.map Ins.D)), some (.fd false s4), some (T.bor s5 0), s6, s7, none, none] = match cdF ns many k n acc with
    | .ok c => .ok (.nx [some (T.bor (iL ns) 0), some (T.bor s1 0), some (T.bor (.int many) 0), some (.fl (c.map Ins.D)), some (.fd false s4), some (T.bor s5 0), s6', s7', none, none])
    | .error e => .ok (.rt (.int e))
  | 0, k, acc, s6, s7, _, _ => ⟨s6, s7, rfl⟩
  | n + 1, k, acc, s6, s7, ha, hkn => by
    rw [rangeI_succ]
    simp only [forLoop_cons, bind_nm, List.length_cons, List.length_nil, List.set_cons_succ, List.set_cons_zero, loopB_some, show (6 : Nat) < 0 + 1 + 1 + 1 + 1 + 1 + 1 + 1 + 1 + 1 + 1 from by decide, if_true]
    have hk : k < ns.length := by omega
    have e1 : callD (G (k0 + 2)) 15 [(.int ns[k], 0), (.int many, 0)] = .ok (oD (lawI ns[k] many), lvlOf (oD (lawI ns[k] many)) 0) := callD_ok (sp_lone k0 ns[k] many)
    rw [lawI_eq (by omega) (by omega)] at e1
    have er : rd ns many k = inO ns[k] many := by unfold rd; rw [List.getElem?_eq_getElem hk]; rfl
    unfold cdF
    rw [er]
    cases hi : inO ns[k] many with
    | none =>
      rw [hi] at e1
      have e1 : callD (G (k0 + 2)) 15 [(.int ns[k], 0), (.int many, 0)] = .ok (.non, 0) := e1
      refine ⟨none, none, ?_⟩
      simp [L1__law_read, iL, at_iL hk, e1]
      omega
    | some i =>
      rw [hi] at e1
      have e1 : callD (G (k0 + 2)) 15 [(.int ns[k], 0), (.int many, 0)] = .ok (i.D, 0) := e1
      have ha' : acc.length < 1000000 := by omega
      obtain ⟨s6', s7', ih⟩ := lp_lcode k0 ns hl many hm s1 s4 s5 s8 s9 n (k + 1) (acc ++ [i]) (some (.bor (.int k) 0)) (some (.bor i.D 0)) (by rw [List.length_append]; simp; omega) (by omega)
      have e4 : i.D.isNon = false := rfl
      have eb : evSs Cc (G (k0 + 2)) sub L1__law_read [some (T.bor (iL ns) 0), some (T.bor s1 0), some (T.bor (.int many) 0), some (.fl (acc.map Ins.D)), some (.fd false s4), some (T.bor s5 0), some (.bor (.int k) 0), s7, none, none] = .ok (.nx [some (T.bor (iL ns) 0), some (T.bor s1 0), some (T.bor (.int many) 0), some (.fl ((acc ++ [i]).map Ins.D)), some (.fd false s4), some (T.bor s5 0), some (.bor (.int k) 0), some (.bor i.D 0), none, none]) := by
        simp [L1__law_read, iL, at_iL hk, e1, e4, ha']
      refine ⟨s6', s7', ?_⟩
      rw [eb, loopO_nx]
      exact ih
theorem lp_ldata (Γ : Fns) (s1 s2 s8 : D) (s3 : List D) (ns : List Int) (hl : ns.length ≤ 100000) : ∀ (n k : Nat) (acc : List (Int × D)) (b : Int) (s6 s7 : Option T), acc.length ≤ k → k + n ≤ ns.length →
    ∃ b' s6' s7', forLoop (Tg.nm 6 z q).bind (evSs Cc Γ sub L2__law_read) (rangeI k n) [some (T.bor (iL ns) 0), some (T.bor s1 0), some (T.bor s2 0), some (.fl s3), some (.fd false (dI acc)), some (T.bor (.int b) 0), s6, s7, some (T.bor s8 0), none] = match dtF ns k n acc b with
    | .ok c => .ok (.nx [some (T.bor (iL ns) 0), some (T.bor s1 0), some (T.bor s2 0), some (.fl s3), some (.fd false (dI c)), b', s6', s7', some (T.bor s8 0), none])
    | .error e => .ok (.rt (.int e))
  | 0, k, acc, b, s6, s7, _, _ => ⟨_, s6, s7, rfl⟩
  | n + 1, k, acc, b, s6, s7, ha, hkn => by
    rw [rangeI_succ]
    simp only [forLoop_cons, bind_nm, List.length_cons, List.length_nil, List.set_cons_succ, List.set_cons_zero, loopB_some, show (6 : Nat) < 0 + 1 + 1 + 1 + 1 + 1 + 1 + 1 + 1 + 1 + 1 from by decide, if_true]
    have hk : k < ns.length := by omega
    unfold dtF
    rw [List.getElem?_eq_getElem hk]
    dsimp only
    by_cases hc : b < ns[k] / 65536 ∧ ns[k] / 65536 < 64
    · have hd : (dI acc).length < 1000000 := by unfold dI; rw [List.length_map]; omega
      obtain ⟨b', s6', s7', ih⟩ := lp_ldata Γ s1 s2 s8 s3 ns hl n (k + 1) (dpI acc (ns[k] / 65536) (.int (ns[k] % 65536))) (ns[k] / 65536) (some (.bor (.int k) 0)) (stale1 s7) (by have := dpI_len acc (ns[k] / 65536) (.int (ns[k] % 65536)); omega) (by omega)
      have eb : evSs Cc Γ sub L2__law_read [some (T.bor (iL ns) 0), some (T.bor s1 0), some (T.bor s2 0), some (.fl s3), some (.fd false (dI acc)), some (T.bor (.int b) 0), some (.bor (.int k) 0), s7, some (T.bor s8 0), none] = .ok (.nx [some (T.bor (iL ns) 0), some (T.bor s1 0), some (T.bor s2 0), some (.fl s3), some (.fd false (dI (dpI acc (ns[k] / 65536) (.int (ns[k] % 65536))))), some (T.bor (.int (ns[k] / 65536)) 0), some (.bor (.int k) 0), stale1 s7, some (T.bor s8 0), none]) := by
        simp [L2__law_read, iL, at_iL hk, hc.1, hc.2, hd, D.key, dput_dI]
      refine ⟨b', s6', s7', ?_⟩
      rw [if_pos hc, eb, loopO_nx]
      exact ih
    · refine ⟨none, none, none, ?_⟩
      have hc' : (!decide (b < ns[k] / 65536) || !decide (ns[k] / 65536 < 64)) = true := by
        by_cases h1 : b < ns[k] / 65536
        · have h2 : ¬ ns[k] / 65536 < 64 := fun h2 => hc ⟨h1, h2⟩
          simp [h2]
        · simp [h1]
      rw [if_neg hc]
      simp [L2__law_read, iL, at_iL hk, hc']
      omega
end Ev.K51
set_option Elab.async false
set_option linter.all false
set_option maxRecDepth 100000
set_option maxHeartbeats 1000000
namespace Ev.K51
open PySem PySem.Spec PyProof.Rows L2
def resD : Except Nat (List Ins × List (Int × D)) → D
  | .ok (c, d) => .tup [codeD c, dctD d]
  | .error e => .int e
def rdEnd (ns : List Int) (many words : Nat) (c : List Ins) (d : List (Int × D)) : Except Nat (List Ins × List (Int × D)) :=
  if ns.length ≠ 3 + many + words + 1 then .error (min (3 + many + words + 1) ns.length)
  else if ns.getD (3 + many + words) 0 ≠ (ns.take (3 + many + words)).sum % 4294967296 then .error (3 + many + words) else .ok (c, d)
def rdData (ns : List Int) (many words : Nat) (c : List Ins) : Except Nat (List (Int × D)) → Except Nat (List Ins × List (Int × D))
  | .error e => .error e
  | .ok d => rdEnd ns many words c d
def rdCnt (ns : List Int) (many : Nat) (c : List Ins) : Option Nat → Except Nat (List Ins × List (Int × D))
  | none => .error (2 + many)
  | some words => rdData ns many words c (dtF ns (3 + many) words [] (-1))
def rdCode (ns : List Int) (many : Nat) : Except Nat (List Ins) → Except Nat (List Ins × List (Int × D))
  | .error e => .error e
  | .ok c => rdCnt ns many c (cnt ns (2 + many) 64)
def rdMany (ns : List Int) : Option Nat → Except Nat (List Ins × List (Int × D))
  | none => .error 1
  | some many => rdCode ns many (cdF ns many 2 many [])
theorem readP_eq (ns : List Int) : readP ns = if ns.length = 0 ∨ ns.getD 0 0 ≠ 23588 then .error 0 else rdMany ns (cnt ns 1 65535) := by
  unfold readP
  congr 1
theorem cnt_some {ns : List Int} {k : Nat} {most : Int} (hk : k < ns.length) (h0 : 0 ≤ ns[k]) (h1 : ns[k] ≤ most) : cnt ns k most = some ns[k].toNat := by
  unfold cnt
  rw [List.getElem?_eq_getElem hk]
  dsimp only
  rw [if_pos ⟨h0, h1⟩]
theorem cnt_none {ns : List Int} {k : Nat} {most : Int} (h : ∀ hk : k < ns.length, ¬ (0 ≤ ns[k] ∧ ns[k] ≤ most)) : cnt ns k most = none := by
  unfold cnt
  by_cases hk : k < ns.length
  · rw [List.getElem?_eq_getElem hk]
    dsimp only
    rw [if_neg (h hk)]
  · rw [List.getElem?_eq_none (by omega)]
theorem and_false_of {a b : Prop} [Decidable a] [Decidable b] (h : ¬ (a ∧ b)) : (decide a && decide b) = false := by
  cases e : (decide a && decide b) with
  | false => rfl
  | true => simp at e; exact absurd e h
theorem not_and_of {a b : Prop} [Decidable a] [Decidable b] (h : ¬ (a ∧ b)) : (!decide a || !decide b) = true := by
  by_cases h1 : a
  · have h2 : ¬ b := fun h2 => h ⟨h1, h2⟩
    simp [h2]
  · simp [h1]
/-- beyond the end there is none -/
theorem cdF_end (ns : List Int) (many : Int) (m : Nat) (acc : List Ins) : cdF ns many ns.length (m + 1) acc = .error ns.length := by
  unfold cdF
  have er : rd ns many ns.length = none := by unfold rd; rw [List.getElem?_eq_none (by omega)]; rfl
  rw [er, Nat.min_self]
theorem dtF_end (ns : List Int) (m : Nat) (acc : List (Int × D)) (b : Int) : dtF ns ns.length (m + 1) acc b = .error ns.length := by
  unfold dtF
  rw [List.getElem?_eq_none (by omega), Nat.min_self]
theorem sp_lread (k : Nat) {ns : List Int} (hl : ns.length ≤ 100000) : G (k + 3) 16 [iL ns] = .ok (resD (readP ns)) := by
  rw [G_succ]
  show d__law_read.run Cc sub (G (k + 2)) _ = _
  rw [run_eq _ _ _ _ _ rfl]
  rw [readP_eq]
  by_cases h0 : ns.length = 0
  · rw [if_pos (.inl h0)]
    simp [d__law_read, b__law_read, startE, iL, h0, resD]
  by_cases h1 : ns.getD 0 0 ≠ 23588
  · rw [if_pos (.inr h1)]
    have h1 : ¬ ns.getD 0 0 = 23588 := h1
    simp only [List.getD_eq_getElem?_getD] at h1
    simp [d__law_read, b__law_read, startE, iL, h0, resD, rdMany, at_iL0 (by omega : 0 < ns.length), h1]
  have h1 : ns.getD 0 0 = 23588 := Classical.not_not.mp h1
  rw [if_neg (fun h => h.elim h0 fun q => q h1)]
  have h0' : ¬ (ns.length : Int) = 0 := by omega
  have a0 := at_iL0 (by omega : 0 < ns.length)
  rw [h1] at a0
  by_cases hw1 : ns.length = 1
  · rw [cnt_none (fun hk => by omega)]
    simp [d__law_read, b__law_read, startE, iL, hw1, resD, rdMany, a0]
  have h1k : 1 < ns.length := by omega
  have hw1' : ¬ (ns.length : Int) = 1 := by omega
  have a1 := at_iL h1k
  have a1 : atI (ns.map D.int) 1 = some (.int ns[1]) := a1
  by_cases hm : ¬ ((0 : Int) ≤ ns[1] ∧ ns[1] ≤ 65535)
  · rw [cnt_none (fun hk => hm)]
    simp [d__law_read, b__law_read, startE, iL, h0, hw1', resD, rdMany, a0, a1, not_and_of hm]
  have hm : (0 : Int) ≤ ns[1] ∧ ns[1] ≤ 65535 := Classical.not_not.mp hm
  rw [cnt_some h1k hm.1 hm.2]
  obtain ⟨many, em⟩ : ∃ many : Nat, ns[1] = many := ⟨ns[1].toNat, by omega⟩
  have hm1 : many ≤ 65535 := by omega
  rw [show ns[1].toNat = many by omega]
  show _ = R.ok (resD (rdCode ns many (cdF ns many 2 many [])))
  rw [em] at a1
  obtain ⟨s6, s7, e1⟩ := lp_lcode k ns hl many hm1 (.int ns.length) [] (.int (-1)) none none (min (2 + many) ns.length - 2) 2 [] none none (by simp) (by omega)
  have hr1 : small62 (min (2 + (many : Int)) ns.length) = true := s62_of (by omega) (by omega)
  have hr2 : (min (2 + (many : Int)) (ns.length : Int) - 2).toNat = min (2 + many) ns.length - 2 := by omega
  have e1 : forLoop (Tg.nm 6 z q).bind (evSs Cc (G (k + 2)) sub L1__law_read) (rangeI 2 (min (2 + many) ns.length - 2)) [some (T.bor (iL ns) 0), some (T.bor (.int ns.length) 0), some (T.bor (.int many) 0), some (.fl []), some (.fd false []), some (T.bor (.int (-1)) 0), none, none, none, none] = _ := e1
  have sp := cdF_split ns many (min (2 + many) ns.length - 2) (many - (min (2 + many) ns.length - 2)) 2 []
  rw [show min (2 + many) ns.length - 2 + (many - (min (2 + many) ns.length - 2)) = many by omega] at sp
  rw [sp]
  have hmany : (many : Int) ≤ 65535 := by omega
  have hm0 : (0 : Int) ≤ many := by omega
  cases c1 : cdF ns many 2 (min (2 + many) ns.length - 2) [] with
  | error e =>
    rw [c1] at e1
    have e1 : forLoop (Tg.nm 6 z q).bind (evSs Cc (G (k + 2)) sub L1__law_read) (rangeI 2 (min (2 + many) ns.length - 2)) [some (T.bor (.lst (ns.map D.int)) 0), some (T.bor (.int ns.length) 0), some (T.bor (.int many) 0), some (.fl []), some (.fd false []), some (T.bor (.int (-1)) 0), none, none, none, none] = .ok (.rt (.int e)) := e1
    simp [d__law_read, b__law_read, startE, iL, h0, hw1', resD, rdCode, rdCnt, rdData, rdMany, a0, a1, hmany, hm0, ownL, rg2R, hr1, hr2, e1]
  | ok c =>
    rw [c1] at e1
    have e1 : forLoop (Tg.nm 6 z q).bind (evSs Cc (G (k + 2)) sub L1__law_read) (rangeI 2 (min (2 + many) ns.length - 2)) [some (T.bor (.lst (ns.map D.int)) 0), some (T.bor (.int ns.length) 0), some (T.bor (.int many) 0), some (.fl []), some (.fd false []), some (T.bor (.int (-1)) 0), none, none, none, none] = .ok (.nx [some (T.bor (.lst (ns.map D.int)) 0), some (T.bor (.int ns.length) 0), some (T.bor (.int many) 0), some (.fl (c.map Ins.D)), some (.fd false []), some (T.bor (.int (-1)) 0), s6, s7, none, none]) := e1
    dsimp only
    by_cases hat : ns.length ≤ 2 + many
    · have hat' : (ns.length : Int) ≤ 2 + many := by omega
      have left : rdCode ns many (cdF ns many (2 + (min (2 + many) ns.length - 2)) (many - (min (2 + many) ns.length - 2)) c) = .error ns.length := by
        rw [show 2 + (min (2 + many) ns.length - 2) = ns.length by omega]
        by_cases he : ns.length = 2 + many
        · rw [show many - (min (2 + many) ns.length - 2) = 0 by omega]
          show rdCnt ns many c (cnt ns (2 + many) 64) = _
          rw [cnt_none (fun hk => by omega), he]; rfl
        · obtain ⟨m, hm⟩ : ∃ m, many - (min (2 + many) ns.length - 2) = m + 1 := ⟨many - (min (2 + many) ns.length - 2) - 1, by omega⟩
          rw [hm, cdF_end]; rfl
      rw [left]
      simp [d__law_read, b__law_read, startE, iL, h0, hw1', resD, rdCode, rdCnt, rdData, rdMany, a0, a1, hmany, hm0, ownL, rg2R, hr1, hr2, e1, hat']
    · have hat' : ¬ (ns.length : Int) ≤ 2 + many := by omega
      rw [show many - (min (2 + many) ns.length - 2) = 0 by omega]
      show _ = R.ok (resD (rdCnt ns many c (cnt ns (2 + many) 64)))
      have hk2 : 2 + many < ns.length := by omega
      have a2 := at_iL hk2
      rw [show ((2 + many : Nat) : Int) = 2 + (many : Int) by omega] at a2
      by_cases hw : ¬ ((0 : Int) ≤ ns[2 + many] ∧ ns[2 + many] ≤ 64)
      · rw [cnt_none (fun _ => hw)]
        have hw' := not_and_of hw
        simp [d__law_read, b__law_read, startE, iL, h0, hw1', resD, rdCode, rdCnt, rdData, rdMany, a0, a1, hmany, hm0, ownL, rg2R, hr1, hr2, e1, hat', a2, hw']
      have hw : (0 : Int) ≤ ns[2 + many] ∧ ns[2 + many] ≤ 64 := Classical.not_not.mp hw
      rw [cnt_some hk2 hw.1 hw.2]
      obtain ⟨words, ew⟩ : ∃ words : Nat, ns[2 + many] = words := ⟨ns[2 + many].toNat, by omega⟩
      rw [show ns[2 + many].toNat = words by omega]
      show _ = R.ok (resD (rdData ns many words c (dtF ns (3 + many) words [] (-1))))
      rw [ew] at a2
      have hw64 : (words : Int) ≤ 64 := by omega
      have hw0 : (0 : Int) ≤ words := by omega
      obtain ⟨b', s6', s7', e2⟩ := lp_ldata (G (k + 2)) (.int ns.length) (.int many) (.int (2 + many)) (c.map Ins.D) ns hl (min (3 + many + words) ns.length - (3 + many)) (3 + many) [] (-1) s6 s7 (by simp) (by omega)
      have e2 : forLoop (Tg.nm 6 z q).bind (evSs Cc (G (k + 2)) sub L2__law_read) (rangeI ((3 + many : Nat) : Int) (min (3 + many + words) ns.length - (3 + many))) [some (T.bor (.lst (ns.map D.int)) 0), some (T.bor (.int ns.length) 0), some (T.bor (.int many) 0), some (.fl (c.map Ins.D)), some (.fd false []), some (T.bor (.int (-1)) 0), s6, s7, some (T.bor (.int (2 + many)) 0), none] = _ := e2
      rw [show ((3 + many : Nat) : Int) = 2 + (many : Int) + 1 by omega] at e2
      have hr3 : small62 (2 + (many : Int) + 1) = true := s62_of (by omega) (by omega)
      have hr4 : small62 (min (2 + (many : Int) + 1 + words) ns.length) = true := s62_of (by omega) (by omega)
      have hr5 : (min (2 + (many : Int) + 1 + words) (ns.length : Int) - (2 + many + 1)).toNat = min (3 + many + words) ns.length - (3 + many) := by omega
      rcases dtF_split ns (min (3 + many + words) ns.length - (3 + many)) (words - (min (3 + many + words) ns.length - (3 + many))) (3 + many) [] (-1) with ⟨e, d1, d2⟩ | ⟨d, b2, d1, d2⟩
      · rw [show min (3 + many + words) ns.length - (3 + many) + (words - (min (3 + many + words) ns.length - (3 + many))) = words by omega] at d2
        rw [d1] at e2
        rw [d2]
        have e2 : forLoop (Tg.nm 6 z q).bind (evSs Cc (G (k + 2)) sub L2__law_read) (rangeI (2 + (many : Int) + 1) (min (3 + many + words) ns.length - (3 + many))) [some (T.bor (.lst (ns.map D.int)) 0), some (T.bor (.int ns.length) 0), some (T.bor (.int many) 0), some (.fl (c.map Ins.D)), some (.fd false []), some (T.bor (.int (-1)) 0), s6, s7, some (T.bor (.int (2 + many)) 0), none] = .ok (.rt (.int e)) := e2
        simp [d__law_read, b__law_read, startE, iL, h0, hw1', resD, rdCode, rdCnt, rdData, rdMany, a0, a1, hmany, hm0, ownL, rg2R, hr1, hr2, e1, hat', a2, hw64, hw0, hr3, hr4, hr5, e2]
      · rw [show min (3 + many + words) ns.length - (3 + many) + (words - (min (3 + many + words) ns.length - (3 + many))) = words by omega] at d2
        rw [d1] at e2
        rw [d2]
        have e2 : forLoop (Tg.nm 6 z q).bind (evSs Cc (G (k + 2)) sub L2__law_read) (rangeI (2 + (many : Int) + 1) (min (3 + many + words) ns.length - (3 + many))) [some (T.bor (.lst (ns.map D.int)) 0), some (T.bor (.int ns.length) 0), some (T.bor (.int many) 0), some (.fl (c.map Ins.D)), some (.fd false []), some (T.bor (.int (-1)) 0), s6, s7, some (T.bor (.int (2 + many)) 0), none] = .ok (.nx [some (T.bor (.lst (ns.map D.int)) 0), some (T.bor (.int ns.length) 0), some (T.bor (.int many) 0), some (.fl (c.map Ins.D)), some (.fd false (dI d)), b', s6', s7', some (T.bor (.int (2 + many)) 0), none]) := e2
        by_cases hend : ns.length ≤ 3 + many + words
        · have hend' : (ns.length : Int) ≤ 2 + many + 1 + words := by omega
          have left : rdData ns many words c (dtF ns (3 + many + (min (3 + many + words) ns.length - (3 + many))) (words - (min (3 + many + words) ns.length - (3 + many))) d b2) = .error ns.length := by
            rw [show 3 + many + (min (3 + many + words) ns.length - (3 + many)) = ns.length by omega]
            by_cases he : ns.length = 3 + many + words
            · rw [show words - (min (3 + many + words) ns.length - (3 + many)) = 0 by omega]
              show rdEnd ns many words c d = _
              unfold rdEnd
              rw [if_pos (by omega), Nat.min_eq_right (by omega)]
            · obtain ⟨m, hm⟩ : ∃ m, words - (min (3 + many + words) ns.length - (3 + many)) = m + 1 := ⟨words - (min (3 + many + words) ns.length - (3 + many)) - 1, by omega⟩
              rw [hm, dtF_end]; rfl
          rw [left]
          simp [d__law_read, b__law_read, startE, iL, h0, hw1', resD, rdCode, rdCnt, rdData, rdMany, a0, a1, hmany, hm0, ownL, rg2R, hr1, hr2, e1, hat', a2, hw64, hw0, hr3, hr4, hr5, e2, hend']
        · have hend' : ¬ (ns.length : Int) ≤ 2 + many + 1 + words := by omega
          rw [show words - (min (3 + many + words) ns.length - (3 + many)) = 0 by omega]
          show _ = R.ok (resD (rdEnd ns many words c d))
          unfold rdEnd
          by_cases hL : ns.length ≠ 3 + many + words + 1
          · have hL' : 2 + (many : Int) + 1 + words + 1 < ns.length := by omega
            rw [if_pos hL, Nat.min_eq_left (by omega)]
            simp [d__law_read, b__law_read, startE, iL, h0, hw1', resD, rdCode, rdCnt, rdData, rdMany, a0, a1, hmany, hm0, ownL, rg2R, hr1, hr2, e1, hat', a2, hw64, hw0, hr3, hr4, hr5, e2, hend', hL']
            omega
          · rw [if_neg hL]
            have hL' : ¬ 2 + (many : Int) + 1 + words + 1 < ns.length := by omega
            have hi : 3 + many + words < ns.length := by omega
            have ai := at_iL hi
            rw [show ((3 + many + words : Nat) : Int) = 2 + (many : Int) + 1 + words by omega] at ai
            have ct : cutD (ns.map D.int) none (some (2 + (many : Int) + 1 + words)) = (ns.take (3 + many + words)).map D.int := by
              have := cutD_take (ns.map D.int) (n := 3 + many + words) (by rw [List.length_map]; omega)
              rw [show ((3 + many + words : Nat) : Int) = 2 + (many : Int) + 1 + words by omega] at this
              rw [this, List.map_take]
            have gd : ns.getD (3 + many + words) 0 = ns[3 + many + words] := by rw [List.getD_eq_getElem?_getD, List.getElem?_eq_getElem hi]; rfl
            rw [gd]
            generalize ns.take (3 + many + words) = tk at ct ⊢
            by_cases hs : ns[3 + many + words] = tk.sum % 4294967296
            · rw [if_neg (fun h => h hs)]
              simp [d__law_read, b__law_read, startE, iL, h0, hw1', resD, rdCode, rdCnt, rdData, rdMany, a0, a1, hmany, hm0, ownL, rg2R, hr1, hr2, e1, hat', a2, hw64, hw0, hr3, hr4, hr5, e2, hend', hL', ai, ct, hs, mkTup, mkLst, upL]
              exact ⟨rfl, rfl⟩
            · rw [if_pos hs]
              simp [d__law_read, b__law_read, startE, iL, h0, hw1', resD, rdCode, rdCnt, rdData, rdMany, a0, a1, hmany, hm0, ownL, rg2R, hr1, hr2, e1, hat', a2, hw64, hw0, hr3, hr4, hr5, e2, hend', hL', ai, ct, hs, mkTup, mkLst, upL]
              omega
end Ev.K51
set_option Elab.async false
set_option linter.all false
set_option maxRecDepth 100000
set_option maxHeartbeats 1000000
namespace Ev
open PySem PySem.Spec PyProof.Rows L2
theorem strHd_dI (d : List (Int × D)) : strHd (dI d) = false := by cases d <;> rfl
theorem asInts_keys (d : List (Int × D)) : asInts (keysD (dI d)) = some (d.map (·.1)) := by
  unfold keysD dI
  rw [List.map_map]
  have := asInts_map (d.map (·.1))
  rw [List.map_map] at this
  exact this
theorem sorted_dI (d : List (Int × D)) (h : d.length ≤ 1000000) (k : Nat) : evBlt .sorted [(.dct false (dI d), k)] = .ok (iL (sortI (d.map (·.1))), 0) := by
  show (match asInts (keysD (dI d)) with | some ns => if decide ((dI d).length ≤ 1000000) then R.ok (D.lst ((sortI ns).map .int), 0) else .fail | _ => .fail) = _
  rw [asInts_keys]
  have : (dI d).length ≤ 1000000 := by unfold dI; rw [List.length_map]; exact h
  simp [this, iL]
theorem idx_dI {d : List (Int × D)} {y : Int} {v : D} (h : (d.find? fun p => decide (p.1 = y)).map (·.2) = some v) (k l : Nat) : evIdx (.dct false (dI d), k) (.int y, l) = .ok (v, lvlOf v (pr k)) := by
  show (if keyOk false (dI d) (.int y) then match dget (.int y) (dI d) with | some d => R.ok (d, lvlOf d (pr k)) | none => .fail else .fail) = _
  have : keyOk false (dI d) (.int y) = true := by unfold keyOk; rw [strHd_dI]; rfl
  rw [if_pos this, dget_dI, h]
end Ev
namespace Ev.K51
open PySem PySem.Spec PyProof.Rows L2
/-! ### an image made -/
abbrev Dat := List (Int × Int)
def Dat.x (d : Dat) : List (Int × D) := d.map fun p => (p.1, .int p.2)
def Dat.e (d : Dat) : D := dctD d.x
def Dat.get (d : Dat) (a : Int) : Int := ((d.find? fun p => decide (p.1 = a)).map (·.2)).getD 0
def Dat.keys (d : Dat) : List Int := sortI (d.map (·.1))
theorem sortI_perm (ns : List Int) : (sortI ns).Perm ns := List.mergeSort_perm _ _
theorem Dat.find (d : Dat) {a : Int} (h : a ∈ d.keys) : (d.x.find? fun p => decide (p.1 = a)).map (·.2) = some (.int (d.get a)) := by
  have h1 : a ∈ d.map (·.1) := (sortI_perm _).mem_iff.mp h
  unfold Dat.x Dat.get
  rw [List.find?_map]
  obtain ⟨p, hp, e⟩ := List.mem_map.mp h1
  cases hf : d.find? fun p => decide (p.1 = a) with
  | none =>
    have := List.find?_eq_none.mp hf p hp
    simp at this
    exact absurd e this
  | some p =>
    have hf2 : List.find? ((fun p : Int × D => decide (p.1 = a)) ∘ fun p : Int × Int => (p.1, D.int p.2)) d = some p := hf
    rw [hf2]; rfl
theorem Dat.idx (d : Dat) {a : Int} (h : a ∈ d.keys) (k l : Nat) : evIdx (d.e, k) (.int a, l) = .ok (.int (d.get a), 0) := idx_dI (d.find h) k l
def Dat.okAt (d : Dat) (a : Int) : Bool := (decide (0 ≤ a) && decide (a < 64)) && (decide (0 ≤ d.get a) && decide (d.get a < 65536))
def Dat.badAt (d : Dat) (ks : List Int) : Option Nat := ks.findIdx? fun a => !d.okAt a
def imgN (c : List Ins) (d : Dat) : List Int :=
  let rows := d.keys.map fun a => a * 65536 + d.get a
  let f := 23588 :: (c.length : Int) :: (c.map Ins.wr ++ ((rows.length : Int) :: rows))
  f ++ [f.sum % 4294967296]
theorem lp_image (Γ : Fns) (c : D) (d : Dat) (s4 s5 s6 : Option T) : ∀ (r : List Int) (j : Nat) (s2 s3 : Option T), (∀ a ∈ r, a ∈ d.keys) →
    ∃ s2' s3', forLoop (Tg.tp [Tg.nm 2 z q, Tg.nm 3 z q] 0 q).bind (evSs Cc Γ sub L1_image) (enumI j (r.map fun a => (.int a, 0))) [some (.bor c 0), some (.bor d.e 0), s2, s3, s4, s5, s6] = match d.badAt r with
    | some t => .exc "BadData" (.int (j + t : Nat))
    | none => .ok (.nx [some (.bor c 0), some (.bor d.e 0), s2', s3', s4, s5, s6])
  | [], j, s2, s3, _ => ⟨s2, s3, by simp [Dat.badAt]⟩
  | a :: r, j, s2, s3, h => by
    have ha := h a (List.mem_cons_self ..)
    obtain ⟨s2', s3', ih⟩ := lp_image Γ c d s4 s5 s6 r (j + 1) (some (T.bor (.int j) 0)) (some (T.bor (.int a) 0)) fun x hx => h x (List.mem_cons_of_mem _ hx)
    have e := d.idx ha 0 0
    have eb : evSs Cc Γ sub L1_image [some (.bor c 0), some (.bor d.e 0), some (T.bor (.int j) 0), some (T.bor (.int a) 0), s4, s5, s6] = if d.okAt a = true then .ok (.nx [some (.bor c 0), some (.bor d.e 0), some (T.bor (.int j) 0), some (T.bor (.int a) 0), s4, s5, s6]) else .exc "BadData" (.int j) := by
      unfold Dat.okAt
      cases h1 : (decide (0 ≤ a) && decide (a < 64)) with
      | false =>
        have h1' : (!decide (0 ≤ a) || !decide (a < 64)) = true := by
          rw [← Bool.not_and, h1]; rfl
        simp [L1_image, h1']
      | true =>
        have h1' : (!decide (0 ≤ a) || !decide (a < 64)) = false := by
          rw [← Bool.not_and, h1]; rfl
        cases h2 : (decide (0 ≤ d.get a) && decide (d.get a < 65536)) with
        | false =>
          have h2' : (!decide (0 ≤ d.get a) || !decide (d.get a < 65536)) = true := by
            rw [← Bool.not_and, h2]; rfl
          simp [L1_image, h1', e, h2']
        | true =>
          have h2' : (!decide (0 ≤ d.get a) || !decide (d.get a < 65536)) = false := by
            rw [← Bool.not_and, h2]; rfl
          simp [L1_image, h1', e, h2']
    cases hg : d.okAt a with
    | true =>
      have hb : d.badAt (a :: r) = (d.badAt r).map (· + 1) := by unfold Dat.badAt; rw [List.findIdx?_cons]; simp [hg]
      rw [if_pos hg] at eb
      refine ⟨s2', s3', ?_⟩
      rw [hb]
      simp [eb, ih]
      cases d.badAt r with
      | none => rfl
      | some t => simp; omega
    | false =>
      have hb : d.badAt (a :: r) = some 0 := by unfold Dat.badAt; rw [List.findIdx?_cons]; simp [hg]
      rw [if_neg (by rw [hg]; exact Bool.false_ne_true)] at eb
      refine ⟨none, none, ?_⟩
      rw [hb]
      simp [eb]
def imgR (c : List Ins) (d : Dat) : R D := match badAt c c.length with
  | some j => .exc "BadCode" (.int j)
  | none => match d.badAt d.keys with
    | some j => .exc "BadData" (.int j)
    | none => .ok (iL (imgN c d))
theorem sp_image (k : Nat) {c : List Ins} (hc : ∀ i ∈ c, i.Ok) (hl : c.length ≤ 1000) (d : Dat) (hd : d.length ≤ 1000) : G (k + 4) 6 [codeD c, d.e] = imgR c d := by
  rw [G_succ]
  show d_image.run Cc sub (G (k + 3)) _ = _
  rw [run_eq _ _ _ _ _ rfl]
  have e1 := sp_check k hc
  unfold imgR
  cases hb : badAt c c.length with
  | some j =>
    rw [hb] at e1
    have e1 : callD (G (k + 3)) 2 [(codeD c, 0)] = .exc "BadCode" (.int j) := callD_exc e1 rfl
    simp [d_image, b_image, startE, e1]
  | none =>
    rw [hb] at e1
    have e1 : callD (G (k + 3)) 2 [(codeD c, 0)] = .ok (.non, 0) := callD_ok e1
    obtain ⟨s2', s3', e2⟩ := lp_image (G (k + 3)) (codeD c) d none none none d.keys 0 none none (fun a h => h)
    have e3 : evBlt .sorted [(d.e, 0)] = .ok (iL d.keys, 0) := by
      have := sorted_dI d.x (by unfold Dat.x; rw [List.length_map]; omega) 0
      rw [show d.x.map (·.1) = d.map (·.1) by unfold Dat.x; rw [List.map_map]; rfl] at this
      exact this
    dsimp only
    have e2' : ∀ r, forLoop (Tg.tp [Tg.nm 2 z q, Tg.nm 3 z q] 0 q).bind (evSs Cc (G (k + 3)) sub L1_image) (enumI 0 (d.keys.map ((fun d => (d, 0)) ∘ D.int))) [some (.bor (codeD c) 0), some (.bor d.e 0), none, none, none, none, none] = r ↔ forLoop (Tg.tp [Tg.nm 2 z q, Tg.nm 3 z q] 0 q).bind (evSs Cc (G (k + 3)) sub L1_image) (enumI 0 (d.keys.map fun a => (.int a, 0))) [some (.bor (codeD c) 0), some (.bor d.e 0), none, none, none, none, none] = r := fun r => Iff.rfl
    cases hk : d.badAt d.keys with
    | some j =>
      rw [hk] at e2
      have e2 := (e2' _).mpr e2
      simp [d_image, b_image, startE, e1, e3, iL, e2]
    | none =>
      rw [hk] at e2
      have e2 := (e2' _).mpr e2
      have hkl : d.keys.length ≤ 1000 := by unfold Dat.keys; rw [(sortI_perm _).length_eq, List.length_map]; exact hd
      have hs1 : d.keys.length ≤ sizeLine := by unfold sizeLine; omega
      have hs2 : c.length ≤ sizeLine := by unfold sizeLine; omega
      simp [d_image, b_image, startE, e1, e3, iL, e2]
      rw [lcLoop_all (enc := (fun d => (d, 0)) ∘ D.int) (g := fun a => (D.int (a * 65536 + d.get a), 0)) fun a ha => ⟨_, by simp; rfl, rfl, by simp [C2_image, d.idx ha]⟩]
      rw [ap1_ok, mkLst_map _ _ hs1]
      simp [codeD]
      rw [lcLoop_all (enc := (fun d => (d, 0)) ∘ Ins.D) (g := fun i => (D.int i.wr, 0)) fun i hi => ⟨_, by simp; rfl, rfl, by simp [C3_image]; exact callD_ok (sp_written (k + 2) (hc i hi))⟩]
      rw [ap1_ok, mkLst_map _ _ hs2]
      simp
      have hrl : (d.keys.map fun a => a * 65536 + d.get a).length = d.keys.length := List.length_map _
      generalize hf : (23588 :: (c.length : Int) :: (c.map Ins.wr ++ ((d.keys.length : Int) :: d.keys.map fun a => a * 65536 + d.get a))) = f
      have hfl : f.length ≤ 4000 := by subst hf; simp; omega
      have hm : mkLst ((D.int 23588, 0) :: (D.int ↑c.length, 0) :: (List.map ((fun d => (d, 0)) ∘ fun i => D.int i.wr) c ++ (D.int ↑d.keys.length, 0) :: List.map ((fun d => (d, 0)) ∘ fun a => D.int (a * 65536 + d.get a)) d.keys)) = .ok (iL f, 0) := by
        have := mkLst_map D.int f (by unfold sizeLine; omega)
        subst hf
        simpa [iL, Function.comp_def] using this
      rw [hm]
      have hm2 : mkLst (List.map ((fun d => (d, 0)) ∘ D.int) f ++ [(D.int (f.sum % 4294967296), 0)]) = .ok (iL (f ++ [f.sum % 4294967296]), 0) := by
        have := mkLst_map D.int (f ++ [f.sum % 4294967296]) (by simp; unfold sizeLine; omega)
        simpa [iL, Function.comp_def] using this
      simp [iL, hm2]
      unfold imgN
      dsimp only
      rw [hrl, hf]
      simp
end Ev.K51
set_option Elab.async false
set_option linter.all false
set_option maxRecDepth 100000
set_option maxHeartbeats 1000000
namespace Ev.K51
open PySem PySem.Spec PyProof.Rows L2
theorem sp_mix (k : Nat) (ds : List Int) (j : Int) {many : Int} (hm : 0 < many) : G (k + 1) 12 [iL ds, .int j, .int many] = .ok (.int (mixN ds j many)) := by
  rw [G_succ]
  show d__law_mix.run Cc sub (G k) _ = _
  rw [run_eq _ _ _ _ _ rfl]
  exact run_mix Cc (G k) sub ds j hm
theorem c_mix (k : Nat) (ds : List Int) (j : Int) {many : Int} (hm : 0 < many) (l1 l2 l3 : Nat) : callD (G (k + 1)) 12 [(iL ds, l1), (.int j, l2), (.int many, l3)] = .ok (.int (mixN ds j many), 0) := callD_ok (sp_mix k ds j hm)
theorem sp_draws (k : Nat) (scr : List Int) : ∃ ds, G (k + 1) 11 [.scr scr] = .ok (iL ds) ∧ Drawn ds := by
  obtain ⟨ds, h1, h2⟩ := run_draws Cc (G k) sub scr
  refine ⟨ds, ?_, h2⟩
  rw [G_succ]
  show d__law_draws.run Cc sub (G k) _ = _
  rw [run_eq _ _ _ _ _ rfl]
  exact h1
theorem su1 : sub "BadImage" "BadImage" = some true := by decide +kernel
theorem su2 : sub "BadCode" "BadCode" = some true := by decide +kernel
theorem su3 : sub "BadData" "BadCode" = some false := by decide +kernel
theorem su4 : sub "BadData" "BadData" = some true := by decide +kernel
theorem sp_told (k : Nat) {ns : List Int} (hl : ns.length ≤ 100000) : G (k + 6) 17 [iL ns] = .ok (resD (readP ns)) := by
  rw [G_succ]
  show d__law_told.run Cc sub (G (k + 5)) _ = _
  rw [run_eq _ _ _ _ _ rfl]
  have e1 := sp_read k hl
  cases hr : readP ns with
  | error e =>
    rw [hr] at e1
    have e1 : callD (G (k + 5)) 10 [(iL ns, 0)] = .exc "BadImage" (.int e) := callD_exc e1 rfl
    simp [d__law_told, b__law_told, startE, e1, resD, evHds, su1, evHE]
  | ok p =>
    obtain ⟨c, d⟩ := p
    rw [hr] at e1
    have e1 : callD (G (k + 5)) 10 [(iL ns, 0)] = .ok (.tup [codeD c, dctD d], 0) := callD_ok e1
    simp [d__law_told, b__law_told, startE, e1, resD]
def summed (ns : List Int) : List Int := ns.dropLast ++ [ns.dropLast.sum % 4294967296]
theorem cutD_init (xs : List D) : cutD xs none (some (-1)) = xs.dropLast := by
  have e : HT.sIx xs.length xs.length (some (-1)) = xs.length - 1 := by
    unfold HT.sIx
    simp
    omega
  unfold cutD
  rw [e]
  show (xs.drop 0).take (xs.length - 1 - 0) = _
  simp [List.dropLast_eq_take]
theorem sp_summed (k : Nat) {ns : List Int} (hl : ns.length ≤ 100000) : G (k + 1) 19 [iL ns] = .ok (iL (summed ns)) := by
  rw [G_succ]
  show d__law_summed.run Cc sub (G k) _ = _
  rw [run_eq _ _ _ _ _ rfl]
  have hs : ns.length - 1 + 1 ≤ sizeLine := by unfold sizeLine; omega
  have hd : (ns.map D.int).dropLast = ns.dropLast.map D.int := by rw [List.map_dropLast]
  have hl2 : ns.dropLast.length = ns.length - 1 := List.length_dropLast ..
  unfold summed
  generalize ns.dropLast = t at hd hl2 ⊢
  simp [d__law_summed, b__law_summed, startE, iL, cutD_init, hd, mkLst, upL, hl2, hs]
def refD : R D → D
  | .exc c a => if c = ("BadCode" : Str) then .tup [.str "code", a] else .tup [.str "data", a]
  | _ => .tup [.str "", .int 0]
theorem sp_refused (k : Nat) {c : List Ins} (hc : ∀ i ∈ c, i.Ok) (hl : c.length ≤ 1000) (d : Dat) (hd : d.length ≤ 1000) : G (k + 5) 20 [codeD c, d.e] = .ok (refD (imgR c d)) := by
  rw [G_succ]
  show d__law_refused.run Cc sub (G (k + 4)) _ = _
  rw [run_eq _ _ _ _ _ rfl]
  have e1 := sp_image k hc hl d hd
  unfold imgR at e1 ⊢
  cases hb : badAt c c.length with
  | some j =>
    rw [hb] at e1
    have e1 : callD (G (k + 4)) 6 [(codeD c, 0), (d.e, 0)] = .exc "BadCode" (.int j) := callD_exc e1 rfl
    simp [d__law_refused, b__law_refused, startE, e1, refD, evHds, su2, evHE, evHEs]
  | none =>
    rw [hb] at e1
    dsimp only at e1 ⊢
    have n1 : ¬ ("BadData" : Str) = "BadCode" := by decide +kernel
    cases hk : d.badAt d.keys with
    | some j =>
      rw [hk] at e1
      have e1 : callD (G (k + 4)) 6 [(codeD c, 0), (d.e, 0)] = .exc "BadData" (.int j) := callD_exc e1 rfl
      simp [d__law_refused, b__law_refused, startE, e1, refD, evHds, su3, su4, evHE, evHEs, n1]
    | none =>
      rw [hk] at e1
      have e1 : callD (G (k + 4)) 6 [(codeD c, 0), (d.e, 0)] = .ok (iL (imgN c d), 0) := callD_ok e1
      simp [d__law_refused, b__law_refused, startE, e1, refD, mkTup, upL]
end Ev.K51
set_option Elab.async false
set_option linter.all false
set_option maxRecDepth 100000
set_option maxHeartbeats 1000000
namespace Ev.K51
open PySem PySem.Spec PyProof.Rows L2
theorem idx_sh {ks : List Kd} {j : Nat} (h : j < ks.length) (hk : ks.length ≤ 100) (l l' : Nat) : evIdx (.str (shS ks), l) (.int j, l') = .ok (.str ks[j].s, 0) := by
  show (if (shS ks).length ≤ sizeLine then match atI (shS ks).cps.toList (j : Int) with | some c => R.ok (D.str ⟨#[c]⟩, 0) | none => .fail else .fail) = _
  rw [if_pos (by rw [shS_len]; unfold sizeLine; omega)]
  have : atI (shS ks).cps.toList (j : Int) = some ks[j].c := by
    unfold shS
    exact atI_nat (by simp [h])
  rw [this, Kd.s_eq]
theorem mostD (m : Int) : mkDic [(.str "d", (.int 8, 0)), (.str "n", (.int 65536, 0)), (.str "t", (.int m, 0))] = .ok (.dct false [(.str "d", .int 8), (.str "n", .int 65536), (.str "t", .int m)], 0) := by kernel_rfl
theorem mostI (m : Int) (x : Kd) (l l' : Nat) : evIdx (.dct false [(.str "d", .int 8), (.str "n", .int 65536), (.str "t", .int (m + 1))], l) (.str x.l.s, l') = .ok (.int (bdK x m), 0) := by
  cases x <;> kernel_rfl
theorem bdK_pos (x : Kd) {m : Int} (h : 0 ≤ m) : 0 < bdK x m := by cases x <;> simp [bdK] <;> omega
/-- parts so far -/
def GoodP (ks : List Kd) (many : Int) (ps : List Int) : Prop := ps.length ≤ ks.length ∧ ∀ p ∈ ps.zip ks, 0 ≤ p.1 ∧ p.1 < bdK p.2 many
theorem goodP_snoc {ks : List Kd} {many : Int} {ps : List Int} (h : GoodP ks many ps) (hl : ps.length < ks.length) {v : Int} (h0 : 0 ≤ v) (h1 : v < bdK ks[ps.length] many) : GoodP ks many (ps ++ [v]) := by
  refine ⟨by simp; omega, fun p hp => ?_⟩
  obtain ⟨i, hi, e⟩ := List.mem_iff_getElem.mp hp
  rw [List.getElem_zip] at e
  have hi' : i < ps.length + 1 := by
    have := hi
    rw [List.length_zip] at this
    simp at this
    omega
  subst e
  by_cases hil : i < ps.length
  · have := h.2 (ps[i], ks[i]) (by
      refine List.mem_iff_getElem.mpr ⟨i, by rw [List.length_zip]; omega, ?_⟩
      rw [List.getElem_zip])
    simpa [List.getElem_append_left hil] using this
  · have e : i = ps.length := by omega
    subst e
    simp
    exact ⟨h0, h1⟩
theorem lp_c2 (k0 : Nat) (ds : List Int) (kk many t : Nat) (s4 : List D) (n : Nat) (hn : n < 24) (s3 s6 : D) : ∀ (m : Nat) (j : Nat) (ps : List Int) (s9 s10 : Option T), j + m = (KS n).length → ps.length = j → GoodP (KS n) many ps →
    ∃ s9' s10' ps', forLoop (Tg.nm 9 z q).bind (evSs Cc (G (k0 + 1)) sub L2__law_code) (rangeI j m) [some (T.bor (iL ds) 0), some (T.bor (.int kk) 0), some (T.bor (.int many) 0), some (T.bor s3 0), some (.fl s4), some (T.bor (.int t) 0), some (T.bor s6 0), some (T.bor (.str (shS ((KS n).map Kd.l))) 0), some (.fl (ps.map .int)), s9, s10] =
      .ok (.nx [some (T.bor (iL ds) 0), some (T.bor (.int kk) 0), some (T.bor (.int many) 0), some (T.bor s3 0), some (.fl s4), some (T.bor (.int t) 0), some (T.bor s6 0), some (T.bor (.str (shS ((KS n).map Kd.l))) 0), some (.fl (ps'.map .int)), s9', s10']) ∧ ps'.length = (KS n).length ∧ GoodP (KS n) many ps'
  | 0, j, ps, s9, s10, hj, hp, hg => ⟨s9, s10, ps, rfl, by omega, hg⟩
  | m + 1, j, ps, s9, s10, hj, hp, hg => by
    have l3 := ks_len n
    have hjl : j < (KS n).length := by omega
    have hjl' : j < ((KS n).map Kd.l).length := by rw [List.length_map]; exact hjl
    have hix := idx_sh hjl' (by rw [List.length_map]; omega) 0 0
    rw [List.getElem_map] at hix
    have hb := bdK_pos (KS n)[j] (m := many) (by omega)
    have e1 : ∀ x : Int, callD (G (k0 + 1)) 12 [(iL ds, 0), (.int x, 0), (.int (bdK (KS n)[j] many), 0)] = .ok (.int (mixN ds x (bdK (KS n)[j] many)), 0) := fun x => c_mix k0 ds x hb 0 0 0
    have e2 : ∀ x : Int, callD (G (k0 + 1)) 12 [(iL ds, 0), (.int x, 0), (.int 5, 0)] = .ok (.int (mixN ds x 5), 0) := fun x => c_mix k0 ds x (by decide) 0 0 0
    have ha : ps.length < 1000000 := by omega
    obtain ⟨v, hv0, hv1, eb⟩ : ∃ v : Int, 0 ≤ v ∧ v < bdK (KS n)[j] many ∧ evSs Cc (G (k0 + 1)) sub L2__law_code [some (T.bor (iL ds) 0), some (T.bor (.int kk) 0), some (T.bor (.int many) 0), some (T.bor s3 0), some (.fl s4), some (T.bor (.int t) 0), some (T.bor s6 0), some (T.bor (.str (shS ((KS n).map Kd.l))) 0), some (.fl (ps.map .int)), some (.bor (.int j) 0), s10] =
        .ok (.nx [some (T.bor (iL ds) 0), some (T.bor (.int kk) 0), some (T.bor (.int many) 0), some (T.bor s3 0), some (.fl s4), some (T.bor (.int t) 0), some (T.bor s6 0), some (T.bor (.str (shS ((KS n).map Kd.l))) 0), some (.fl ((ps ++ [v]).map .int)), some (.bor (.int j) 0), some (.bor (.int (bdK (KS n)[j] many)) 0)]) := by
      by_cases h5 : mixN ds (kk + 5 * t + 4) 5 = 0
      · refine ⟨bdK (KS n)[j] many - 1, by omega, by omega, ?_⟩
        simp [L2__law_code, hix, mostD, mostI, e1, e2, h5, mkLst, ha]
      · refine ⟨mixN ds (kk + 5 * t + 1 + j) (bdK (KS n)[j] many), mix_ge _ _ hb, mix_lt _ _ hb, ?_⟩
        simp [L2__law_code, hix, mostD, mostI, e1, e2, h5, mkLst, ha]
    obtain ⟨s9', s10', ps', ih, h1, h2⟩ := lp_c2 k0 ds kk many t s4 n hn s3 s6 m (j + 1) (ps ++ [v]) (some (.bor (.int j) 0)) (some (.bor (.int (bdK (KS n)[j] many)) 0)) (by omega) (by simp; omega) (goodP_snoc hg (by omega) hv0 (by subst hp; exact hv1))
    refine ⟨s9', s10', ps', ?_, h1, h2⟩
    rw [rangeI_succ]
    simp only [forLoop_cons, bind_nm, List.length_cons, List.length_nil, List.set_cons_succ, List.set_cons_zero, loopB_some, show (9 : Nat) < 0 + 1 + 1 + 1 + 1 + 1 + 1 + 1 + 1 + 1 + 1 + 1 from by decide, if_true, eb, loopO_nx]
    exact ih
/-- a good program of so many, for targets up to many -/
def GoodC (many : Nat) (c : List Ins) : Prop := ∀ i ∈ c, i.Ok ∧ i.good many = true ∧ i.ps.length = i.ks.length
theorem good_of {n : Nat} {ps : List Int} {many : Nat} (h : GoodP (KS n) many ps) (hl : ps.length = (KS n).length) : okI (KS n) ps many = true := by
  rw [okI_iff]
  exact ⟨hl.symm, h.2⟩
theorem lp_c1 (k0 : Nat) (ds : List Int) (kk many : Nat) : ∀ (m t : Nat) (c : List Ins) (s5 s6 s7 s8 s9 s10 : Option T), t + m ≤ 1000 → c.length = t → GoodC many c →
    ∃ s5' s6' s7' s8' s9' s10' c', forLoop (Tg.nm 5 z q).bind (evSs Cc (G (k0 + 1)) sub L1__law_code) (rangeI t m) [some (T.bor (iL ds) 0), some (T.bor (.int kk) 0), some (T.bor (.int many) 0), some (T.bor shpL 0), some (.fl (c.map Ins.D)), s5, s6, s7, s8, s9, s10] =
      .ok (.nx [some (T.bor (iL ds) 0), some (T.bor (.int kk) 0), some (T.bor (.int many) 0), some (T.bor shpL 0), some (.fl (c'.map Ins.D)), s5', s6', s7', s8', s9', s10']) ∧ c'.length = t + m ∧ GoodC many c'
  | 0, t, c, s5, s6, s7, s8, s9, s10, _, hc, hg => ⟨s5, s6, s7, s8, s9, s10, c, rfl, by omega, hg⟩
  | m + 1, t, c, s5, s6, s7, s8, s9, s10, ht, hc, hg => by
    have h0 := mix_ge ds (kk + 5 * (t : Int)) (many := 24) (by decide)
    have h1 := mix_lt ds (kk + 5 * (t : Int)) (many := 24) (by decide)
    have e2 : callD (G (k0 + 1)) 12 [(iL ds, 0), (.int (kk + 5 * (t : Int)), 0), (.int 24, 0)] = .ok (.int (mixN ds (kk + 5 * (t : Int)) 24), 0) := c_mix k0 ds _ (by decide) 0 0 0
    obtain ⟨n, en⟩ : ∃ n : Nat, mixN ds (kk + 5 * (t : Int)) 24 = n := ⟨(mixN ds (kk + 5 * (t : Int)) 24).toNat, by omega⟩
    rw [en] at e2 h0 h1
    have hn : n < 24 := by omega
    have l3 := ks_len n
    have hs : small62 ((KS n).length : Int) = true := s62_of (by omega) (by omega)
    obtain ⟨s9', s10', ps, e3, hp1, hp2⟩ := lp_c2 k0 ds kk many t (c.map Ins.D) n hn shpL (.str (W n)) (KS n).length 0 [] s9 s10 (by omega) rfl ⟨by simp, by simp⟩
    have e3 : forLoop (Tg.nm 9 z q).bind (evSs Cc (G (k0 + 1)) sub L2__law_code) (rangeI 0 (KS n).length) [some (T.bor (iL ds) 0), some (T.bor (.int kk) 0), some (T.bor (.int many) 0), some (T.bor (.lst ((List.range 24).map rowL)) 0), some (.fl (c.map Ins.D)), some (T.bor (.int t) 0), some (T.bor (.str (W n)) 0), some (T.bor (.str (shS ((KS n).map Kd.l))) 0), some (.fl []), s9, s10] = _ := e3
    have ha : c.length < 1000000 := by omega
    have hps : 1 + ps.length ≤ sizeLine := by unfold sizeLine; omega
    have hlm : evBlt .len [(.str (shS ((KS n).map Kd.l)), 0)] = .ok (.int (KS n).length, 0) := by
      have := len_sh (ks := (KS n).map Kd.l) (by rw [List.length_map]; omega) 0
      rw [List.length_map] at this
      exact this
    have eb : evSs Cc (G (k0 + 1)) sub L1__law_code [some (T.bor (iL ds) 0), some (T.bor (.int kk) 0), some (T.bor (.int many) 0), some (T.bor shpL 0), some (.fl (c.map Ins.D)), some (.bor (.int t) 0), s6, s7, s8, s9, s10] =
        .ok (.nx [some (T.bor (iL ds) 0), some (T.bor (.int kk) 0), some (T.bor (.int many) 0), some (T.bor shpL 0), some (.fl ((c ++ [Ins.mk n ps]).map Ins.D)), some (.bor (.int t) 0), some (T.bor (.str (W n)) 0), some (T.bor (.str (shS ((KS n).map Kd.l))) 0), some (.fl (ps.map .int)), stale1 s9', stale1 s10']) := by
      simp [L1__law_code, shpL, e2, at_shp hn, rowL, ownL, rg1R, hs, e3, mkTup, hps, ha, upL, hlm, Ins.D, insD]
    obtain ⟨s5', s6', s7', s8', s9'', s10'', c', ih, g1, g2⟩ := lp_c1 k0 ds kk many m (t + 1) (c ++ [Ins.mk n ps]) (some (.bor (.int t) 0)) (some (T.bor (.str (W n)) 0)) (some (T.bor (.str (shS ((KS n).map Kd.l))) 0)) (some (.fl (ps.map .int))) (stale1 s9') (stale1 s10') (by omega) (by simp; omega) (by
      intro i hi
      rcases List.mem_append.mp hi with hi | hi
      · exact hg i hi
      · rw [List.mem_singleton.mp hi]
        exact ⟨hn, good_of hp2 hp1, hp1⟩)
    refine ⟨s5', s6', s7', s8', s9'', s10'', c', ?_, by omega, g2⟩
    rw [rangeI_succ]
    simp only [forLoop_cons, bind_nm, List.length_cons, List.length_nil, List.set_cons_succ, List.set_cons_zero, loopB_some, show (5 : Nat) < 0 + 1 + 1 + 1 + 1 + 1 + 1 + 1 + 1 + 1 + 1 + 1 from by decide, if_true, eb, loopO_nx]
    exact ih
theorem sp_code (k : Nat) (ds : List Int) (kk many : Nat) (hm : many ≤ 1000) : ∃ c, G (k + 2) 18 [iL ds, .int kk, .int many] = .ok (codeD c) ∧ c.length = many ∧ GoodC many c := by
  obtain ⟨s5, s6, s7, s8, s9, s10, c, e, h1, h2⟩ := lp_c1 k ds kk many many 0 [] none none none none none none (by omega) rfl (by intro i hi; cases hi)
  refine ⟨c, ?_, by omega, h2⟩
  rw [G_succ]
  show d__law_code.run Cc sub (G (k + 1)) _ = _
  rw [run_eq _ _ _ _ _ rfl]
  have e : forLoop (Tg.nm 5 z q).bind (evSs Cc (G (k + 1)) sub L1__law_code) (rangeI 0 many) [some (T.bor (iL ds) 0), some (T.bor (.int kk) 0), some (T.bor (.int many) 0), some (T.bor shpL 0), some (.fl []), none, none, none, none, none, none] = _ := e
  have hs : small62 (many : Int) = true := s62_of (by omega) (by omega)
  simp [d__law_code, b__law_code, startE, ownL, rg1R, hs, e, codeD]
end Ev.K51
set_option Elab.async false
set_option linter.all false
set_option maxRecDepth 100000
set_option maxHeartbeats 2000000
namespace Ev.K51
open PySem PySem.Spec PyProof.Rows L2
/-! ### plain: what is written is read -/
theorem len3 {α : Type} {l : List α} : (l.length = 0 → l = []) ∧ (l.length = 1 → ∃ a, l = [a]) ∧ (l.length = 2 → ∃ a b, l = [a, b]) ∧ (l.length = 3 → ∃ a b c, l = [a, b, c]) := by
  match l with
  | [] => simp
  | [a] => simp
  | [a, b] => simp
  | [a, b, c] => simp
  | a :: b :: c :: d :: r => simp
theorem inO_wr {i : Ins} {many : Int} (hi : i.Ok) (hg : i.good many = true) (hl : i.ps.length = i.ks.length) (hm2 : many ≤ 65535) : inO i.wr many = some i := by
  obtain ⟨n, ps⟩ := i
  have hi : n < 24 := hi
  have hg0 : okI (KS n) ps many = true := hg
  rw [okI_iff] at hg0
  have hl : ps.length = (KS n).length := hl
  have key : wrF (ps.zip (KS n)) (n * 134217728) 134217728 / 134217728 = n ∧ gsF (KS n) (wrF (ps.zip (KS n)) (n * 134217728) 134217728) 134217728 = ps := by
    obtain ⟨_, hb⟩ := hg0
    revert hb
    rcases ks_sh n with h | h | h | h | h | h | h | h | h | h <;> rw [h] at hl ⊢ <;> simp only [List.length_cons, List.length_nil] at hl
    · rw [len3.1 hl]; simp [wrF, gsF]
    · obtain ⟨a, b, rfl⟩ := len3.2.2.1 hl; simp [wrF, gsF, Kd.r, bdK]; omega
    · obtain ⟨a, b, c, rfl⟩ := len3.2.2.2 hl; simp [wrF, gsF, Kd.r, bdK]; omega
    · obtain ⟨a, b, c, rfl⟩ := len3.2.2.2 hl; simp [wrF, gsF, Kd.r, bdK]; omega
    · obtain ⟨a, b, c, rfl⟩ := len3.2.2.2 hl; simp [wrF, gsF, Kd.r, bdK]; omega
    · obtain ⟨a, b, c, rfl⟩ := len3.2.2.2 hl; simp [wrF, gsF, Kd.r, bdK]; omega
    · obtain ⟨a, rfl⟩ := len3.2.1 hl; simp [wrF, gsF, Kd.r, bdK]; omega
    · obtain ⟨a, b, rfl⟩ := len3.2.2.1 hl; simp [wrF, gsF, Kd.r, bdK]; omega
    · obtain ⟨a, rfl⟩ := len3.2.1 hl; simp [wrF, gsF, Kd.r, bdK]; omega
    · obtain ⟨a, b, rfl⟩ := len3.2.2.1 hl; simp [wrF, gsF, Kd.r, bdK]; omega
  have hgs : gsI (Ins.wr ⟨n, ps⟩) = some ⟨n, ps⟩ := by
    unfold gsI
    show (if 0 ≤ wrF (ps.zip (KS n)) (n * 134217728) 134217728 / 134217728 ∧ wrF (ps.zip (KS n)) (n * 134217728) 134217728 / 134217728 < 24 then some (Ins.mk (wrF (ps.zip (KS n)) (n * 134217728) 134217728 / 134217728).toNat (gsF (KS (wrF (ps.zip (KS n)) (n * 134217728) 134217728 / 134217728).toNat) (wrF (ps.zip (KS n)) (n * 134217728) 134217728) 134217728)) else none) = _
    rw [key.1, if_pos ⟨by omega, by omega⟩]
    rw [show ((n : Int)).toNat = n by omega, key.2]
  unfold inO
  rw [hgs]
  simp [Option.filter, hg]
theorem cdF_good (ns : List Int) (many : Nat) (hm : many ≤ 65535) : ∀ (c : List Ins) (k : Nat) (acc : List Ins), GoodC many c → (∀ j i, c[j]? = some i → ns[k + j]? = some i.wr) → cdF ns many k c.length acc = .ok (acc ++ c)
  | [], k, acc, _, _ => by simp [cdF]
  | i :: c, k, acc, hg, hn => by
    have h0 := hn 0 i rfl
    have hi := hg i (List.mem_cons_self ..)
    have er : rd ns many k = some i := by
      unfold rd
      rw [show ns[k]? = some i.wr from h0]
      exact inO_wr hi.1 hi.2.1 hi.2.2 (by omega)
    rw [List.length_cons]
    unfold cdF
    rw [er]
    dsimp only
    rw [cdF_good ns many hm c (k + 1) (acc ++ [i]) (fun x hx => hg x (List.mem_cons_of_mem _ hx)) (fun j x hx => by
      have := hn (j + 1) x (by simpa using hx)
      rw [show k + (j + 1) = k + 1 + j by omega] at this
      exact this)]
    simp
def Asc (d : Dat) : Prop := d.Pairwise fun p q => p.1 < q.1
def InR (d : Dat) : Prop := ∀ p ∈ d, 0 ≤ p.1 ∧ p.1 < 64 ∧ 0 ≤ p.2 ∧ p.2 < 65536
theorem dtF_good (ns : List Int) : ∀ (d : Dat) (k : Nat) (acc : Dat) (b : Int), Asc d → InR d → (∀ p ∈ acc, p.1 ≤ b) → (∀ p ∈ d, b < p.1) → (∀ j p, d[j]? = some p → ns[k + j]? = some (p.1 * 65536 + p.2)) →
    dtF ns k d.length acc.x b = .ok (Dat.x (acc ++ d))
  | [], k, acc, b, _, _, _, _, _ => by simp [dtF]
  | p :: d, k, acc, b, ha, hr, h1, h2, hn => by
    have h0 : ns[k]? = some (p.1 * 65536 + p.2) := hn 0 p rfl
    have hp := hr p (List.mem_cons_self ..)
    have hb := h2 p (List.mem_cons_self ..)
    rw [List.length_cons]
    unfold dtF
    rw [h0]
    dsimp only
    have q1 : (p.1 * 65536 + p.2) / 65536 = p.1 := by omega
    have q2 : (p.1 * 65536 + p.2) % 65536 = p.2 := by omega
    rw [q1, q2, if_pos ⟨hb, hp.2.1⟩]
    have hnew : dpI acc.x p.1 (.int p.2) = Dat.x (acc ++ [p]) := by
      rw [dpI_new]
      · simp [Dat.x]
      · intro x hx
        obtain ⟨y, hy, rfl⟩ := List.mem_map.mp hx
        have := h1 y hy
        show y.1 ≠ p.1
        omega
    rw [hnew]
    have hd := List.pairwise_cons.mp ha
    rw [dtF_good ns d (k + 1) (acc ++ [p]) p.1 hd.2 (fun x hx => hr x (List.mem_cons_of_mem _ hx)) (fun x hx => by
      rcases List.mem_append.mp hx with hx | hx
      · have := h1 x hx; omega
      · rw [List.mem_singleton.mp hx]; exact Int.le_refl _) (fun x hx => hd.1 x hx) (fun j x hx => by
      have := hn (j + 1) x (by simpa using hx)
      rw [show k + (j + 1) = k + 1 + j by omega] at this
      exact this)]
    simp
/-- the numbers ahead of the sum -/
def front (c : List Ins) (d : Dat) : List Int := 23588 :: (c.length : Int) :: (c.map Ins.wr ++ ((d.length : Int) :: d.map fun p => p.1 * 65536 + p.2))
theorem front_len (c : List Ins) (d : Dat) : (front c d).length = 3 + c.length + d.length := by unfold front; simp; omega
theorem read_front {c : List Ins} {d : Dat} (hc : GoodC c.length c) (hl : c.length ≤ 1000) (ha : Asc d) (hr : InR d) (hd : d.length ≤ 64) (rest : List Int) : readP (front c d ++ rest) = rdEnd (front c d ++ rest) c.length d.length c d.x := by
  have g0 : (front c d ++ rest).getD 0 0 = 23588 := rfl
  have l0 : (front c d ++ rest).length ≠ 0 := by simp [front]
  rw [readP_eq, if_neg (by rintro (h | h); exact l0 h; exact h g0)]
  have c1 : cnt (front c d ++ rest) 1 65535 = some c.length := by
    show (match some (c.length : Int) with | none => none | some v => if 0 ≤ v ∧ v ≤ 65535 then some v.toNat else none) = _
    dsimp only
    rw [if_pos ⟨by omega, by omega⟩]; rfl
  rw [c1]
  have c2 : cdF (front c d ++ rest) c.length 2 c.length [] = .ok c := by
    have := cdF_good (front c d ++ rest) c.length (by omega) c 2 [] hc (fun j i hj => by
      have hjl : j < c.length := (List.getElem?_eq_some_iff.mp hj).1
      show (23588 :: (c.length : Int) :: (c.map Ins.wr ++ ((d.length : Int) :: d.map fun p => p.1 * 65536 + p.2)) ++ rest)[2 + j]? = _
      rw [show 2 + j = j + 1 + 1 by omega]
      simp only [List.cons_append, List.getElem?_cons_succ, List.append_assoc]
      rw [List.getElem?_append_left (by rw [List.length_map]; exact hjl), List.getElem?_map, hj]; rfl)
    simpa using this
  show rdCode _ _ (cdF (front c d ++ rest) c.length 2 c.length []) = _
  rw [c2]
  have c3 : cnt (front c d ++ rest) (2 + c.length) 64 = some d.length := by
    have : (front c d ++ rest)[2 + c.length]? = some (d.length : Int) := by
      show (23588 :: (c.length : Int) :: (c.map Ins.wr ++ ((d.length : Int) :: d.map fun p => p.1 * 65536 + p.2)) ++ rest)[2 + c.length]? = _
      rw [show 2 + c.length = c.length + 1 + 1 by omega]
      simp only [List.cons_append, List.getElem?_cons_succ, List.append_assoc]
      rw [List.getElem?_append_right (by rw [List.length_map]; exact Nat.le_refl _), List.length_map, Nat.sub_self]; rfl
    unfold cnt
    rw [this]
    dsimp only
    rw [if_pos ⟨by omega, by omega⟩]; rfl
  show rdCnt _ _ _ (cnt (front c d ++ rest) (2 + c.length) 64) = _
  rw [c3]
  have c4 : dtF (front c d ++ rest) (3 + c.length) d.length [] (-1) = .ok d.x := by
    have := dtF_good (front c d ++ rest) d (3 + c.length) [] (-1) ha hr (by simp) (fun p hp => by have := hr p hp; omega) (fun j p hj => by
      have hjl : j < d.length := (List.getElem?_eq_some_iff.mp hj).1
      show (23588 :: (c.length : Int) :: (c.map Ins.wr ++ ((d.length : Int) :: d.map fun p => p.1 * 65536 + p.2)) ++ rest)[3 + c.length + j]? = _
      rw [show 3 + c.length + j = c.length + 1 + j + 1 + 1 by omega]
      simp only [List.cons_append, List.getElem?_cons_succ, List.append_assoc]
      rw [List.getElem?_append_right (by rw [List.length_map]; omega), List.length_map, show c.length + 1 + j - c.length = j + 1 by omega, List.getElem?_cons_succ]
      rw [List.getElem?_append_left (by rw [List.length_map]; exact hjl), List.getElem?_map, hj]; rfl)
    exact this
  show rdData _ _ _ _ (dtF (front c d ++ rest) (3 + c.length) d.length [] (-1)) = _
  rw [c4]; rfl
/-! ### plain: what is read -/
theorem rd_range {ns : List Int} {many : Int} {k : Nat} {i : Ins} (h : rd ns many k = some i) : ∃ v, ns[k]? = some v ∧ 0 ≤ v ∧ v < 4294967296 := by
  unfold rd at h
  obtain ⟨v, e1, e2⟩ := Option.bind_eq_some_iff.mp h
  refine ⟨v, e1, ?_⟩
  unfold inO at e2
  cases hg : gsI v with
  | none => rw [hg] at e2; cases e2
  | some j =>
    unfold gsI at hg
    split at hg
    · rename_i hh; omega
    · cases hg
theorem cdF_range {ns : List Int} {many : Int} : ∀ (n k : Nat) (acc c : List Ins), cdF ns many k n acc = .ok c → ∀ j, k ≤ j → j < k + n → ∃ v, ns[j]? = some v ∧ 0 ≤ v ∧ v < 4294967296
  | 0, k, acc, c, _, j, h1, h2 => by omega
  | n + 1, k, acc, c, h, j, h1, h2 => by
    unfold cdF at h
    cases hr : rd ns many k with
    | none => rw [hr] at h; cases h
    | some i =>
      rw [hr] at h
      dsimp only at h
      by_cases hj : j = k
      · subst hj; exact rd_range hr
      · exact cdF_range n (k + 1) (acc ++ [i]) c h j (by omega) (by omega)
theorem dtF_range {ns : List Int} : ∀ (n k : Nat) (acc : Dat) (b : Int) (d : List (Int × D)), -1 ≤ b → Asc acc → (∀ p ∈ acc, p.1 ≤ b) → dtF ns k n acc.x b = .ok d →
    (∀ j, k ≤ j → j < k + n → ∃ v, ns[j]? = some v ∧ 0 ≤ v ∧ v < 4294967296) ∧ ∃ d' : Dat, d = d'.x ∧ Asc d'
  | 0, k, acc, b, d, _, ha, _, h => by
    refine ⟨fun j h1 h2 => by omega, acc, ?_, ha⟩
    cases h; rfl
  | n + 1, k, acc, b, d, hb, ha, hle, h => by
    unfold dtF at h
    cases hk : ns[k]? with
    | none => rw [hk] at h; cases h
    | some v =>
      rw [hk] at h
      dsimp only at h
      split at h
      · rename_i hc
        have hnew : dpI acc.x (v / 65536) (.int (v % 65536)) = Dat.x (acc ++ [(v / 65536, v % 65536)]) := by
          rw [dpI_new]
          · simp [Dat.x]
          · intro x hx
            obtain ⟨y, hy, rfl⟩ := List.mem_map.mp hx
            have := hle y hy
            show y.1 ≠ v / 65536
            omega
        rw [hnew] at h
        have z := dtF_range n (k + 1) (acc ++ [(v / 65536, v % 65536)]) (v / 65536) d (by omega) (List.pairwise_append.mpr ⟨ha, List.pairwise_singleton _ _, fun x hx y hy => by
          rw [List.mem_singleton.mp hy]
          have := hle x hx
          show x.1 < v / 65536
          omega⟩) (fun x hx => by
          rcases List.mem_append.mp hx with hx | hx
          · have := hle x hx; omega
          · rw [List.mem_singleton.mp hx]; exact Int.le_refl _) h
        refine ⟨fun j h1 h2 => ?_, z.2⟩
        by_cases hj : j = k
        · subst hj; exact ⟨v, hk, by omega, by omega⟩
        · exact z.1 j (by omega) (by omega)
      · cases h
theorem read_ok {ns : List Int} {c : List Ins} {d : List (Int × D)} (h : readP ns = .ok (c, d)) : ∃ n, ns.length = n + 1 ∧ (∀ j < n, ∃ v, ns[j]? = some v ∧ 0 ≤ v ∧ v < 4294967296) ∧ ns.getD n 0 = (ns.take n).sum % 4294967296 ∧ ∃ d' : Dat, d = d'.x ∧ Asc d' := by
  rw [readP_eq] at h
  split at h
  · cases h
  · rename_i h0
    have l0 : ¬ ns.length = 0 := fun q => h0 (.inl q)
    have g0 : ns.getD 0 0 = 23588 := Classical.not_not.mp fun q => h0 (.inr q)
    cases c1 : cnt ns 1 65535 with
    | none => rw [c1] at h; cases h
    | some many =>
      rw [c1] at h
      have m1 := cnt_le c1
      have h : rdCode ns many (cdF ns many 2 many []) = _ := h
      cases c2 : cdF ns many 2 many [] with
      | error e => rw [c2] at h; cases h
      | ok c' =>
        rw [c2] at h
        have h : rdCnt ns many c' (cnt ns (2 + many) 64) = _ := h
        cases c3 : cnt ns (2 + many) 64 with
        | none => rw [c3] at h; cases h
        | some words =>
          rw [c3] at h
          have m3 := cnt_le c3
          have h : rdData ns many words c' (dtF ns (3 + many) words [] (-1)) = _ := h
          cases c4 : dtF ns (3 + many) words [] (-1) with
          | error e => rw [c4] at h; cases h
          | ok d' =>
            rw [c4] at h
            have h : rdEnd ns many words c' d' = _ := h
            unfold rdEnd at h
            split at h
            · cases h
            · rename_i hL
              have hL : ns.length = 3 + many + words + 1 := Classical.not_not.mp hL
              split at h
              · cases h
              · rename_i hs
                cases h
                have r2 := cdF_range many 2 [] c c2
                have r4 := dtF_range words (3 + many) [] (-1) d (by decide) List.Pairwise.nil (by simp) c4
                refine ⟨3 + many + words, hL, fun j hj => ?_, Classical.not_not.mp hs, r4.2⟩
                have get : ∀ i v, i < ns.length → ns.getD i 0 = v → ns[i]? = some v := fun i v hi e => by
                  rw [List.getD_eq_getElem?_getD, List.getElem?_eq_getElem hi] at e
                  rw [List.getElem?_eq_getElem hi, ← e]; rfl
                by_cases j0 : j = 0
                · subst j0; exact ⟨23588, get 0 _ (by omega) g0, by decide, by decide⟩
                by_cases j1 : j = 1
                · subst j1; exact ⟨many, get 1 _ m1.2.1 m1.2.2, by omega, by omega⟩
                by_cases j2 : j < 2 + many
                · exact r2 j (by omega) j2
                by_cases j3 : j = 2 + many
                · subst j3; exact ⟨words, get _ _ m3.2.1 m3.2.2, by omega, by omega⟩
                · exact r4.1 j (by omega) hj
theorem sum_set : ∀ (l : List Int) (k : Nat) (v w : Int), l[k]? = some w → (l.set k v).sum = l.sum - w + v
  | [], k, v, w, h => by simp at h
  | a :: l, 0, v, w, h => by simp at h; subst h; simp; omega
  | a :: l, k + 1, v, w, h => by
    have := sum_set l k v w (by simpa using h)
    simp [this]; omega
/-- no image changed in one number is read -/
theorem read_set {ns : List Int} {c c' : List Ins} {d d' : List (Int × D)} {k : Nat} {v w : Int} (h : readP ns = .ok (c, d)) (hk : ns[k]? = some w) (hne : v ≠ w) : readP (ns.set k v) ≠ .ok (c', d') := by
  intro h2
  obtain ⟨n, l1, r1, s1, _⟩ := read_ok h
  obtain ⟨m, l2, r2, s2, _⟩ := read_ok h2
  rw [List.length_set] at l2
  have : m = n := by omega
  subst this
  have hkl : k < ns.length := (List.getElem?_eq_some_iff.mp hk).1
  by_cases hkn : k = m
  · subst hkn
    rw [List.take_set_of_le (Nat.le_refl _)] at s2
    rw [← s1] at s2
    rw [List.getD_eq_getElem?_getD, List.getD_eq_getElem?_getD, hk, List.getElem?_set_self hkl] at s2
    exact hne s2
  · have hlt : k < m := by omega
    obtain ⟨w', e1, a1, a2⟩ := r1 k hlt
    rw [hk] at e1
    cases e1
    obtain ⟨v', e2, b1, b2⟩ := r2 k hlt
    rw [List.getElem?_set_self hkl] at e2
    cases e2
    rw [List.take_set, sum_set _ k v w (by rw [List.getElem?_take_of_lt hlt]; exact hk)] at s2
    rw [List.getD_eq_getElem?_getD, List.getElem?_set_ne hkn, ← List.getD_eq_getElem?_getD, s1] at s2
    omega
end Ev.K51
set_option Elab.async false
set_option linter.all false
set_option maxRecDepth 100000
set_option maxHeartbeats 2000000
namespace Ev.K51
open PySem PySem.Spec PyProof.Rows L2
/-! ### results compared -/
theorem Dat.get_of {d : Dat} (ha : Asc d) {p : Int × Int} (hp : p ∈ d) : d.find? (fun x => decide (x.1 = p.1)) = some p := by
  induction d with
  | nil => cases hp
  | cons x d ih =>
    have hd := List.pairwise_cons.mp ha
    rw [List.find?_cons]
    rcases List.mem_cons.mp hp with rfl | hp
    · simp
    · have := hd.1 p hp
      have n : ¬ x.1 = p.1 := by omega
      simp only [n, decide_false]
      exact ih hd.2 hp
theorem ins_pl (i : Ins) : i.D.pl = true := by
  unfold Ins.D insD D.pl D.pls
  rw [show (D.str i.w).pl = true from rfl, Bool.true_and]
  exact pls_map _ fun _ _ => rfl
theorem ins_dep (i : Ins) : i.D.dep ≤ 1 := by
  unfold Ins.D insD D.dep
  have h : D.deps (D.str i.w :: i.ps.map D.int) ≤ 0 := by
    unfold D.deps
    have := deps_map D.int (xs := i.ps) (n := 0) fun x _ => by simp [D.dep]
    simp [D.dep]; omega
  omega
theorem code_pl (c : List Ins) : (codeD c).pl = true := by
  unfold codeD D.pl
  exact pls_map _ fun i _ => ins_pl i
theorem code_dep (c : List Ins) : (codeD c).dep ≤ 2 := by
  unfold codeD D.dep
  have := deps_map Ins.D (xs := c) (n := 1) fun i _ => ins_dep i
  omega
theorem deqk_sub {d : Dat} (ha : Asc d) : ∀ (r : Dat), (∀ p ∈ r, p ∈ d) → deqk (dI d.x) (dI r.x) = true
  | [], _ => by simp [Dat.x, dI, deqk]
  | p :: r, h => by
    have hp := Dat.get_of ha (h p (List.mem_cons_self ..))
    have e : dget (.int p.1) (dI d.x) = some (.int p.2) := by
      rw [dget_dI]
      unfold Dat.x
      rw [List.find?_map]
      rw [show List.find? ((fun x : Int × D => decide (x.1 = p.1)) ∘ fun p : Int × Int => (p.1, D.int p.2)) d = some p from hp]; rfl
    show deqk (dI d.x) ((.int p.1, .int p.2) :: dI (Dat.x r)) = true
    unfold deqk
    rw [e, deqk_sub ha r fun x hx => h x (List.mem_cons_of_mem _ hx)]
    simp [deq]
theorem dct_ok (d : Dat) : (dctOk (dI d.x) && !strHd (dI d.x)) = true := by
  rw [strHd_dI]
  unfold dctOk dI Dat.x
  simp [D.key, D.fits, D.dep]
theorem elOk_dct (d : Dat) : elOk d.e d.e = true := by
  show ((dctOk (dI d.x) && !strHd (dI d.x)) && (dctOk (dI d.x) && !strHd (dI d.x))) = true
  rw [dct_ok]; rfl
theorem deq_dct {d : Dat} (ha : Asc d) : deq d.e d.e = true := by
  show deq (.dct false (dI d.x)) (.dct false (dI d.x)) = true
  unfold deq
  rw [deqk_sub ha d fun _ h => h]; simp
/-- what reading gives, its dict in order -/
def GoodR (r : Except Nat (List Ins × List (Int × D))) : Prop := ∀ c d, r = .ok (c, d) → ∃ d' : Dat, d = d'.x ∧ Asc d'
theorem read_goodR (ns : List Int) : GoodR (readP ns) := fun c d h => let ⟨_, _, _, _, z⟩ := read_ok h; z
theorem resD_ok (r : Except Nat (List Ins × List (Int × D))) (h : GoodR r) : eqOk (resD r) (resD r) = true ∧ deq (resD r) (resD r) = true ∧ (resD r).isDct = false := by
  cases r with
  | error e => exact ⟨eqOk_scal rfl rfl, by simp [resD, deq], rfl⟩
  | ok p =>
    obtain ⟨c, d⟩ := p
    obtain ⟨d', rfl, ha⟩ := h c d rfl
    have hc : (codeD c).fits = true := fits_of (code_dep c) (by decide)
    refine ⟨?_, ?_, rfl⟩
    · show (((D.tup [codeD c, d'.e]).fits && (D.tup [codeD c, d'.e]).fits) || (elOk (codeD c) (codeD c) && (elOk d'.e d'.e && true))) = true
      have : elOk (codeD c) (codeD c) = true := by
        show ((codeD c).fits && (codeD c).fits) = true
        rw [hc]; rfl
      rw [this, elOk_dct]; simp
    · show deq (.tup [codeD c, d'.e]) (.tup [codeD c, d'.e]) = true
      simp only [deq, deqs, (deq_pl _ _ (code_pl c) (code_pl c)).mpr rfl, deq_dct ha, Bool.and_self]
theorem cmp_res (r : Except Nat (List Ins × List (Int × D))) (h : GoodR r) (k l : Nat) : cmpE .NotEq (resD r, k) (resD r, l) = .ok (.bl false, 0) := by
  obtain ⟨h1, h2, h3⟩ := resD_ok r h
  rw [cmpE_eq]
  show mkB (if eqOk (resD r) (resD r) && !(resD r).isDct then R.ok (!deq (resD r) (resD r)) else .fail) = _
  rw [h1, h2, h3]; rfl
theorem isT_err (e : Nat) (k : Nat) : isT1 (resD (.error e), k) = .ok (.bl false, 0) := rfl
/-! ### sorted dicts -/
theorem sortI_asc {ns : List Int} (h : ns.Pairwise (· < ·)) : sortI ns = ns := by
  unfold sortI
  apply List.mergeSort_of_pairwise
  exact h.imp fun h => by simp; omega
theorem sortI_sorted (ns : List Int) : (sortI ns).Pairwise (· ≤ ·) := by
  unfold sortI
  have := List.pairwise_mergeSort (le := fun a b : Int => decide (a ≤ b)) (fun a b c h1 h2 => by simp at *; omega) (fun a b => by simp; omega) ns
  exact this.imp fun h => by simpa using h
theorem sortI_eq {ns ms : List Int} (h : ms.Pairwise (· < ·)) (p : ns.Perm ms) : sortI ns = ms :=
  List.Perm.eq_of_pairwise (le := fun a b : Int => a ≤ b) (fun a b _ _ h1 h2 => Int.le_antisymm h1 h2) (sortI_sorted ns) (h.imp fun h => Int.le_of_lt h) ((sortI_perm ns).trans p)
theorem asc_keys {d : Dat} (ha : Asc d) : (d.map (·.1)).Pairwise (· < ·) := by
  unfold Asc at ha
  exact List.pairwise_map.mpr ha
theorem keys_of {d e : Dat} (ha : Asc d) (p : e.Perm d) : e.keys = d.map (·.1) := sortI_eq (asc_keys ha) (p.map _)
theorem find_perm {d e : Dat} (ha : Asc d) (p : e.Perm d) {x : Int × Int} (hx : x ∈ d) : e.get x.1 = x.2 := by
  unfold Dat.get
  cases hf : e.find? fun y => decide (y.1 = x.1) with
  | none =>
    have := List.find?_eq_none.mp hf x (p.mem_iff.mpr hx)
    simp at this
  | some y =>
    have h1 := List.find?_some hf
    have h2 : y ∈ d := p.mem_iff.mp (List.mem_of_find?_eq_some hf)
    have e1 := Dat.get_of ha hx
    have e2 := Dat.get_of ha h2
    have h1 : y.1 = x.1 := by simpa using h1
    rw [h1, e1] at e2
    cases e2
    rfl
theorem imgN_of {c : List Ins} {d e : Dat} (ha : Asc d) (p : e.Perm d) : imgN c e = front c d ++ [(front c d).sum % 4294967296] := by
  have hr : (e.keys.map fun a => a * 65536 + e.get a) = d.map fun p => p.1 * 65536 + p.2 := by
    rw [keys_of ha p, List.map_map]
    apply List.map_congr_left
    intro x hx
    show x.1 * 65536 + e.get x.1 = _
    rw [find_perm ha p hx]
  unfold imgN front
  dsimp only
  rw [hr, List.length_map]
theorem bad_none {d e : Dat} (ha : Asc d) (hr : InR d) (p : e.Perm d) : e.badAt e.keys = none := by
  unfold Dat.badAt
  rw [List.findIdx?_eq_none_iff]
  intro a h
  rw [keys_of ha p] at h
  obtain ⟨x, hx, rfl⟩ := List.mem_map.mp h
  have := hr x hx
  unfold Dat.okAt
  rw [find_perm ha p hx]
  simp
  omega
theorem code_none {c : List Ins} {many : Nat} (h : GoodC many c) : badAt c many = none := by
  unfold badAt
  rw [List.findIdx?_eq_none_iff]
  intro i hi
  rw [(h i hi).2.1]; rfl
end Ev.K51
set_option Elab.async false
set_option linter.all false
set_option maxRecDepth 100000
set_option maxHeartbeats 2000000
namespace Ev
open PySem PySem.Spec PyProof.Rows L2
theorem atI_mem {xs : List D} {i : Int} (h0 : 0 ≤ i) (h1 : i < xs.length) : ∃ d ∈ xs, atI xs i = some d := by
  rw [atI_ge h0 h1]
  have : i.toNat < xs.length := by omega
  exact ⟨xs[i.toNat], List.getElem_mem this, List.getElem?_eq_getElem this⟩
end Ev
namespace Ev.K51
open PySem PySem.Spec PyProof.Rows L2
theorem asPairs_map : ∀ l : Dat, asPairs (l.map fun p => D.tup [.int p.1, .int p.2]) = some (l.map fun p => (D.int p.1, D.int p.2))
  | [] => rfl
  | p :: l => by
    rw [List.map_cons, asPairs, asPairs_map l]; rfl
theorem fold_dput : ∀ (l acc : Dat), (acc ++ l).Pairwise (fun p q => p.1 ≠ q.1) → (l.map fun p => (D.int p.1, D.int p.2)).foldl (fun m p => dput m p.1 p.2) (dI acc.x) = dI (Dat.x (acc ++ l))
  | [], acc, _ => by simp
  | p :: l, acc, h => by
    rw [List.map_cons, List.foldl_cons]
    have hp := List.pairwise_append.mp h
    have e : dput (dI acc.x) (.int p.1) (.int p.2) = dI (Dat.x (acc ++ [p])) := by
      rw [dput_dI, dpI_new]
      · simp [Dat.x]
      · intro x hx
        obtain ⟨y, hy, rfl⟩ := List.mem_map.mp hx
        exact hp.2.2 y hy p (List.mem_cons_self ..)
    rw [e, fold_dput l (acc ++ [p]) (by simpa using h)]
    simp
theorem dict_map {l : Dat} (h : l.Pairwise (fun p q => p.1 ≠ q.1)) : evBlt .dict [(.lst (l.map fun p => D.tup [.int p.1, .int p.2]), 0)] = .ok (l.e, 0) := by
  show (match asPairs (l.map fun p => D.tup [.int p.1, .int p.2]) with
    | some ps => if ps.all (fun p => p.1.key.isSome) then R.ok (D.dct false (ps.foldl (fun (m : List (D × D)) (p : D × D) => dput m p.1 p.2) []), upL (pr (pr 0))) else .fail
    | none => .fail) = _
  rw [asPairs_map]
  have e := fold_dput l [] (by simpa using h)
  have e : (l.map fun p => (D.int p.1, D.int p.2)).foldl (fun m p => dput m p.1 p.2) [] = dI (Dat.x l) := e
  dsimp only
  rw [if_pos (by simp [D.key]), e]; rfl
theorem lp_dat (k0 : Nat) (scr ds : List Int) (c : List Ins) : ∀ (m a : Nat) (d : Dat) (s4 : Option T), a + m ≤ 64 → Asc d → InR d → d.length ≤ a → (∀ p ∈ d, p.1 < a) →
    ∃ d' s4', forLoop (Tg.nm 4 z q).bind (evSs Cc (G (k0 + 1)) sub L1_law) (rangeI a m) [some (T.bor (.scr scr) 0), some (T.bor (iL ds) 0), some (T.bor (codeD c) 0), some (.fd false (dI d.x)), s4, none, none, none, none, none, none, none, none, none, none, none, none, none, none, none, none] =
      .ok (.nx [some (T.bor (.scr scr) 0), some (T.bor (iL ds) 0), some (T.bor (codeD c) 0), some (.fd false (dI (Dat.x d'))), s4', none, none, none, none, none, none, none, none, none, none, none, none, none, none, none, none]) ∧ Asc d' ∧ InR d' ∧ d'.length ≤ a + m
  | 0, a, d, s4, _, ha, hr, hl, _ => ⟨d, s4, rfl, ha, hr, hl⟩
  | m + 1, a, d, s4, ham, ha, hr, hl, hlt => by
    have m1 := fun (x : Int) (n : Int) (hn : 0 < n) => c_mix k0 ds x hn 0 0 0
    obtain ⟨v, hv, ev⟩ := atI_mem (xs := [.int 2, .int 10, .int 1, .int 64]) (mix_ge ds 2 (many := 4) (by decide)) (mix_lt ds 2 (many := 4) (by decide))
    obtain ⟨v, rfl, hv0⟩ : ∃ w : Int, v = .int w ∧ 0 < w := by
      simp at hv
      rcases hv with rfl | rfl | rfl | rfl <;> exact ⟨_, rfl, by decide⟩
    obtain ⟨u, hu, eu⟩ := atI_mem (xs := [.int 0, .int 65535, .int (mixN ds (270 + (a : Int)) 65536)]) (mix_ge ds (340 + (a : Int)) (many := 3) (by decide)) (mix_lt ds (340 + (a : Int)) (many := 3) (by decide))
    have g0 := mix_ge ds (270 + (a : Int)) (many := 65536) (by decide)
    have g1 := mix_lt ds (270 + (a : Int)) (many := 65536) (by decide)
    obtain ⟨u, rfl, hu0, hu1⟩ : ∃ w : Int, u = .int w ∧ 0 ≤ w ∧ w < 65536 := by
      simp at hu
      rcases hu with rfl | rfl | rfl
      · exact ⟨_, rfl, by decide, by decide⟩
      · exact ⟨_, rfl, by decide, by decide⟩
      · exact ⟨_, rfl, g0, g1⟩
    have hdl : (dI d.x).length < 1000000 := by simp [dI, Dat.x]; omega
    obtain ⟨d2, eb, hA, hR, hL, hT⟩ : ∃ d2 : Dat, evSs Cc (G (k0 + 1)) sub L1_law [some (T.bor (.scr scr) 0), some (T.bor (iL ds) 0), some (T.bor (codeD c) 0), some (.fd false (dI d.x)), some (.bor (.int a) 0), none, none, none, none, none, none, none, none, none, none, none, none, none, none, none, none] =
        .ok (.nx [some (T.bor (.scr scr) 0), some (T.bor (iL ds) 0), some (T.bor (codeD c) 0), some (.fd false (dI (Dat.x d2))), some (.bor (.int a) 0), none, none, none, none, none, none, none, none, none, none, none, none, none, none, none, none]) ∧ Asc d2 ∧ InR d2 ∧ d2.length ≤ a + 1 ∧ (∀ p ∈ d2, p.1 < (a + 1 : Nat)) := by
      by_cases h0 : mixN ds (200 + (a : Int)) v = 0
      · refine ⟨d ++ [((a : Int), u)], ?_, ?_, ?_, by simp; omega, ?_⟩
        · have hnew : dpI d.x a (.int u) = Dat.x (d ++ [((a : Int), u)]) := by
            rw [dpI_new]
            · simp [Dat.x]
            · intro x hx
              obtain ⟨y, hy, rfl⟩ := List.mem_map.mp hx
              have := hlt y hy
              show y.1 ≠ a
              omega
          simp [L1_law, m1, mkLst, ev, eu, hv0, h0, D.key, hdl, dput_dI, hnew]
        · exact List.pairwise_append.mpr ⟨ha, List.pairwise_singleton _ _, fun x hx y hy => by
            rw [List.mem_singleton.mp hy]
            exact hlt x hx⟩
        · intro p hp
          rcases List.mem_append.mp hp with hp | hp
          · exact hr p hp
          · rw [List.mem_singleton.mp hp]
            exact ⟨by omega, by omega, hu0, hu1⟩
        · intro p hp
          rcases List.mem_append.mp hp with hp | hp
          · have := hlt p hp; omega
          · rw [List.mem_singleton.mp hp]; omega
      · refine ⟨d, ?_, ha, hr, by omega, fun p hp => by have := hlt p hp; omega⟩
        simp [L1_law, m1, mkLst, ev, eu, hv0, h0]
    obtain ⟨d', s4', ih, i1, i2, i3⟩ := lp_dat k0 scr ds c m (a + 1) d2 (some (.bor (.int a) 0)) (by omega) hA hR hL hT
    refine ⟨d', s4', ?_, i1, i2, by omega⟩
    rw [rangeI_succ]
    simp only [forLoop_cons, bind_nm, List.length_cons, List.length_nil, List.set_cons_succ, List.set_cons_zero, loopB_some, show (4 : Nat) < 0 + 1 + 1 + 1 + 1 + 1 + 1 + 1 + 1 + 1 + 1 + 1 + 1 + 1 + 1 + 1 + 1 + 1 + 1 + 1 + 1 + 1 from by decide, if_true, eb, loopO_nx]
    exact ih
end Ev.K51
set_option Elab.async false
set_option linter.all false
set_option maxRecDepth 100000
set_option maxHeartbeats 2000000
namespace Ev
open PySem PySem.Spec PyProof.Rows L2
/-! ### lists of ints -/
def cutN (xs : List Int) (lo hi : Option Int) : List Int := (xs.drop (HT.sIx xs.length 0 lo)).take (HT.sIx xs.length xs.length hi - HT.sIx xs.length 0 lo)
theorem cutN_len (xs : List Int) (lo hi : Option Int) : (cutN xs lo hi).length ≤ xs.length := by
  unfold cutN
  rw [List.length_take, List.length_drop]
  omega
theorem slcI (xs : List Int) (lo hi : Option Int) : evSlc (iL xs, 0) lo hi = .ok (iL (cutN xs lo hi), 0) := by
  unfold iL
  rw [slc_lst]
  unfold cutD cutN
  rw [List.map_take, List.map_drop, List.length_map]; rfl
theorem addI {xs ys : List Int} (h : xs.length + ys.length ≤ 200000) : evBin .Add (iL xs, 0) (iL ys, 0) = .ok (iL (xs ++ ys), 0) := by
  unfold iL
  rw [bin_addL, if_pos (by rw [List.length_map, List.length_map]; unfold sizeLine; omega), List.map_append]; rfl
theorem lenI (xs : List Int) (k : Nat) : evBlt .len [(iL xs, k)] = .ok (.int xs.length, 0) := by
  unfold iL
  rw [len_lst, List.length_map]
theorem sumI (xs : List Int) (k : Nat) : evBlt .sum [(iL xs, k)] = .ok (.int xs.sum, 0) := sum_ints xs
theorem revI (xs : List Int) : revE (iL xs, 0) = .ok (iL xs.reverse, 0) := by
  unfold iL
  rw [revE_lst, List.map_reverse]; rfl
theorem idxI (xs : List Int) (j : Int) (l : Nat) : evIdx (iL xs, 0) (.int j, l) = idxR 0 (atI (xs.map .int) j) := idx_lst _ _
theorem listI (xs : List Int) : evBlt .list [(iL xs, 0)] = .ok (iL xs, 0) := list_lst _
theorem mkI0 : mkLst [] = .ok (iL [], 0) := rfl
theorem mkI1 (a : Int) : mkLst [(.int a, 0)] = .ok (iL [a], 0) := by simp [mkLst, iL, upL]
theorem mkI2 (a b : Int) : mkLst [(.int a, 0), (.int b, 0)] = .ok (iL [a, b], 0) := by simp [mkLst, iL, upL]
theorem mkI3 (a b c : Int) : mkLst [(.int a, 0), (.int b, 0), (.int c, 0)] = .ok (iL [a, b, c], 0) := by simp [mkLst, iL, upL]
theorem mkI4 (a b c d : Int) : mkLst [(.int a, 0), (.int b, 0), (.int c, 0), (.int d, 0)] = .ok (iL [a, b, c, d], 0) := by simp [mkLst, iL, upL]
theorem mkI5 (a b c d e : Int) : mkLst [(.int a, 0), (.int b, 0), (.int c, 0), (.int d, 0), (.int e, 0)] = .ok (iL [a, b, c, d, e], 0) := by simp [mkLst, iL, upL]
theorem mkIL4 (a b c d : List Int) : mkLst [(iL a, 0), (iL b, 0), (iL c, 0), (iL d, 0)] = .ok (.lst [iL a, iL b, iL c, iL d], 0) := by simp [mkLst, upL]
theorem cut_take {xs : List Int} {k : Nat} (h : k ≤ xs.length) : cutN xs none (some (k : Int)) = xs.take k := by
  unfold cutN
  rw [HT.sIx_nat, HT.sIx_none, Nat.min_eq_left h]
  simp
theorem cut_drop {xs : List Int} {k : Nat} (h : k ≤ xs.length) : cutN xs (some (k : Int)) none = xs.drop k := by
  unfold cutN
  rw [HT.sIx_nat, HT.sIx_none, Nat.min_eq_left h]
  apply List.take_of_length_le
  rw [List.length_drop]; omega
end Ev
namespace Ev.K51
open PySem PySem.Spec PyProof.Rows L2
theorem e_told (k : Nat) {ns : List Int} (hl : ns.length ≤ 100000) : callD (G (k + 6)) 17 [(iL ns, 0)] = .ok (resD (readP ns), 0) := by
  have := callD_ok (xs := [(iL ns, 0)]) (sp_told k hl)
  simpa using this
theorem e_read (k : Nat) {ns : List Int} (hl : ns.length ≤ 100000) : callD (G (k + 6)) 16 [(iL ns, 0)] = .ok (resD (readP ns), 0) := by
  have := callD_ok (xs := [(iL ns, 0)]) (sp_lread (k + 3) hl)
  simpa using this
theorem e_summed (k : Nat) {ns : List Int} (hl : ns.length ≤ 100000) : callD (G (k + 6)) 19 [(iL ns, 0)] = .ok (iL (summed ns), 0) := by
  have := callD_ok (xs := [(iL ns, 0)]) (sp_summed (k + 5) hl)
  simpa using this
theorem summed_len {ns : List Int} {n : Nat} (hl : ns.length ≤ n) (hn : 1 ≤ n) : (summed ns).length ≤ n := by
  unfold summed
  rw [List.length_append, List.length_dropLast]
  simp
  omega
theorem cmp_r (ns : List Int) (k l : Nat) : cmpE .NotEq (resD (readP ns), k) (resD (readP ns), l) = .ok (.bl false, 0) := cmp_res _ (read_goodR ns) k l
theorem cmp_neI (xs ys : List Int) (k l : Nat) : cmpE .NotEq (iL xs, k) (iL ys, l) = .ok (.bl (!decide (xs = ys)), 0) := cmp_ne_iL xs ys k l
theorem l6_body (k : Nat) {ns : List Int} (hl : ns.length ≤ 100000) (s0 s1 s2 s3 s4 s5 s6 s7 s8 s9 s10 s11 s12 s13 s14 s15 s16 s18 s19 s20 : Option T) :
    evSs Cc (G (k + 6)) sub L6_law [s0, s1, s2, s3, s4, s5, s6, s7, s8, s9, s10, s11, s12, s13, s14, s15, s16, some (.bor (iL ns) 0), s18, s19, s20] = .ok (.nx [s0, s1, s2, s3, s4, s5, s6, s7, s8, s9, s10, s11, s12, s13, s14, s15, s16, some (.bor (iL ns) 0), s18, s19, s20]) := by
  simp [L6_law, e_told k hl, e_read k hl, e_summed k hl, e_told k (summed_len hl (by decide)), e_read k (summed_len hl (by decide)), cmp_r, mkI0, cmp_neI]
theorem l6_loop (k : Nat) : ∀ (ls : List (List Int)) (s17 : Option T) (s0 s1 s2 s3 s4 s5 s6 s7 s8 s9 s10 s11 s12 s13 s14 s15 s16 s18 s19 s20 : Option T), (∀ l ∈ ls, l.length ≤ 100000) →
    ∃ s17', forLoop (Tg.nm 17 z q).bind (evSs Cc (G (k + 6)) sub L6_law) (ls.map fun l => (iL l, 0)) [s0, s1, s2, s3, s4, s5, s6, s7, s8, s9, s10, s11, s12, s13, s14, s15, s16, s17, s18, s19, s20] = .ok (.nx [s0, s1, s2, s3, s4, s5, s6, s7, s8, s9, s10, s11, s12, s13, s14, s15, s16, s17', s18, s19, s20])
  | [], s17, s0, s1, s2, s3, s4, s5, s6, s7, s8, s9, s10, s11, s12, s13, s14, s15, s16, s18, s19, s20, _ => ⟨s17, rfl⟩
  | l :: ls, s17, s0, s1, s2, s3, s4, s5, s6, s7, s8, s9, s10, s11, s12, s13, s14, s15, s16, s18, s19, s20, h => by
    obtain ⟨s17', ih⟩ := l6_loop k ls (some (.bor (iL l) 0)) s0 s1 s2 s3 s4 s5 s6 s7 s8 s9 s10 s11 s12 s13 s14 s15 s16 s18 s19 s20 fun x hx => h x (List.mem_cons_of_mem _ hx)
    refine ⟨s17', ?_⟩
    have eb := l6_body k (h l (List.mem_cons_self ..)) s0 s1 s2 s3 s4 s5 s6 s7 s8 s9 s10 s11 s12 s13 s14 s15 s16 s18 s19 s20
    rw [List.map_cons]
    simp only [forLoop_cons, bind_nm, List.length_cons, List.length_nil, List.set_cons_succ, List.set_cons_zero, loopB_some, show (17 : Nat) < 0 + 1 + 1 + 1 + 1 + 1 + 1 + 1 + 1 + 1 + 1 + 1 + 1 + 1 + 1 + 1 + 1 + 1 + 1 + 1 + 1 + 1 from by decide, if_true, eb, loopO_nx]
    exact ih
theorem l5_body (k : Nat) (ds N : List Int) (hN : N.length ≤ 1000) (j : Nat) (hj : j < N.length) (good : ∃ c d, readP N = .ok (c, d)) (s0 s2 s3 s4 s5 s7 s8 s10 s11 s12 s13 s14 s15 s16 s17 s18 s19 s20 : Option T) :
    ∃ s10' s11' s12' s13' s14' s15' s16' s17', evSs Cc (G (k + 6)) sub L5_law [s0, some (.bor (iL ds) 0), s2, s3, s4, s5, some (.bor (iL N) 0), s7, s8, some (.bor (.int j) 0), s10, s11, s12, s13, s14, s15, s16, s17, s18, s19, s20] =
      .ok (.nx [s0, some (.bor (iL ds) 0), s2, s3, s4, s5, some (.bor (iL N) 0), s7, s8, some (.bor (.int j) 0), s10', s11', s12', s13', s14', s15', s16', s17', s18, s19, s20]) := by
  have m1 := fun (x : Int) (n : Int) (hn : 0 < n) => c_mix (k + 5) ds x hn 0 0 0
  have aj := at_iL hj
  have c1 := cutN_len N none (some (j : Int))
  have c2 := cutN_len N (some ((j : Int) + 1)) none
  have c3 := cutN_len N (some (j : Int)) (some ((j : Int) + 1))
  have c4 := cutN_len N (some (j : Int)) none
  have c5 := cutN_len N (some (j : Int)) (some ((j : Int) + 2))
  have c6 := cutN_len N (some ((j : Int) + 2)) none
  generalize hm : mixN ds (500 + 6 * (j : Int)) 65536 * 65536 + mixN ds (500 + 6 * (j : Int) + 1) 65536 = mm
  obtain ⟨o, ho, eo⟩ := atI_mem (xs := ([N[j] + 1, N[j] - 1, mm, -1 - N[j]] ++ [N[j] + 4294967296, N[j] + 65536, N[j] + 134217728, 64, 65]).map D.int) (mix_ge ds (500 + 6 * (j : Int) + 2) (many := 9) (by decide)) (mix_lt ds (500 + 6 * (j : Int) + 2) (many := 9) (by decide))
  obtain ⟨o, _, rfl⟩ := List.mem_map.mp ho
  have hbent : cutN N none (some (j : Int)) ++ [o] ++ cutN N (some ((j : Int) + 1)) none = N.set j o := by
    rw [cut_take (by omega), show ((j : Int) + 1) = ((j + 1 : Nat) : Int) by omega, cut_drop (by omega)]
    rw [List.set_eq_take_append_cons_drop, if_pos hj]; simp
  have hbl : (N.set j o).length ≤ 100000 := by rw [List.length_set]; omega
  have t1 := e_told k hbl
  have t2 := e_read k hbl
  have t3 := e_summed k hbl
  have t4 := e_told k (summed_len hbl (by decide))
  have t5 := e_read k (summed_len hbl (by decide))
  have hisT : andZ (!decide (o = N[j])) (isT1 (resD (readP (N.set j o)), 0)) = .ok (.bl false, 0) := by
    by_cases he : o = N[j]
    · simp [he]
    · obtain ⟨c, d, hr⟩ := good
      cases hrr : readP (N.set j o) with
      | error e => simp [he, isT_err]
      | ok p => exact absurd hrr (read_set hr (List.getElem?_eq_getElem hj) he)
  obtain ⟨s17', e6⟩ := l6_loop k [cutN N none (some (j : Int)) ++ cutN N (some ((j : Int) + 1)) none, cutN N none (some (j : Int)) ++ cutN N (some (j : Int)) (some ((j : Int) + 1)) ++ cutN N (some (j : Int)) none, cutN N none (some (j : Int)) ++ (cutN N (some (j : Int)) (some ((j : Int) + 2))).reverse ++ cutN N (some ((j : Int) + 2)) none, cutN N none (some (j : Int))] s17 s0 (some (.bor (iL ds) 0)) s2 s3 s4 s5 (some (.bor (iL N) 0)) s7 s8 (some (.bor (.int j) 0)) (some (.bor (.int (500 + 6 * (j : Int))) 0)) (some (.bor (iL ([N[j] + 1, N[j] - 1, mm, -1 - N[j]] ++ [N[j] + 4294967296, N[j] + 65536, N[j] + 134217728, 64, 65])) 0)) (some (.bor (.int o) 0)) (some (.bor (iL (N.set j o)) 0)) (some (.bor (iL (cutN N none (some (j : Int)) ++ cutN N (some ((j : Int) + 1)) none)) 0)) (some (.bor (iL (cutN N none (some (j : Int)) ++ cutN N (some (j : Int)) (some ((j : Int) + 1)) ++ cutN N (some (j : Int)) none)) 0)) (some (.bor (iL (cutN N none (some (j : Int)) ++ (cutN N (some (j : Int)) (some ((j : Int) + 2))).reverse ++ cutN N (some ((j : Int) + 2)) none)) 0)) s18 s19 s20 (by
    intro l hl
    simp only [List.mem_cons, List.not_mem_nil, or_false] at hl
    rcases hl with rfl | rfl | rfl | rfl <;> (try simp only [List.length_append, List.length_reverse]) <;> omega)
  simp only [List.map_cons, List.map_nil] at e6
  refine ⟨(some (.bor (.int (500 + 6 * (j : Int))) 0)), (some (.bor (iL ([N[j] + 1, N[j] - 1, mm, -1 - N[j]] ++ [N[j] + 4294967296, N[j] + 65536, N[j] + 134217728, 64, 65])) 0)), (some (.bor (.int o) 0)), (some (.bor (iL (N.set j o)) 0)), (some (.bor (iL (cutN N none (some (j : Int)) ++ cutN N (some ((j : Int) + 1)) none)) 0)), (some (.bor (iL (cutN N none (some (j : Int)) ++ cutN N (some (j : Int)) (some ((j : Int) + 1)) ++ cutN N (some (j : Int)) none)) 0)), (some (.bor (iL (cutN N none (some (j : Int)) ++ (cutN N (some (j : Int)) (some ((j : Int) + 2))).reverse ++ cutN N (some ((j : Int) + 2)) none)) 0)), s17', ?_⟩
  simp (disch := first | assumption | omega | (simp only [List.length_append, List.length_cons, List.length_nil, List.length_reverse]; omega) | decide) only [L5_law, ap1_ok, ap1_exc, ap1_fail, ap2_ok, ap2_exc, ap2_exc2, ap3_ok, ap3_exc, getV_some, slot_zero, slot_succ, slotT_zero, slotT_succ, frzA_zero, frzA_succ, frzO_nil, frzO_cons, frz_bor, frz_fl, frz_fd, stale_nil, stale_cons, stale1_bor, stale1_fl, stale1_fd, stale1_none, toD_bor, toD_fl, toD_fd, lvl_bor, lvl_fl, lvl_fd, pr_one, mkB_ok, chn3_ok, chnB_true, chnB_false, andZ_true, andZ_false, orZ_true, orZ_false, andZ_bl, orZ_bl, chnB_b, andR_true, andR_false, andR_bl, orR_true, orR_false, orR_bl, ifX_ok, ifX_exc, ifB_true, ifB_false, consA_ok, appA_ok, spl1_lst, spl1_tup, cons3_ok, optI_int, revE_lst, cixR_ok, mthR_get, lsI1_eq, lcR_ok, lcR_exc, intE_int, enuE_lst, zipE_ok, evE_var, evE_cst, evE_int, evE_bl, evE_non, evE_str, evE_bin, evE_neg, evE_not, evE_cmp, evE_chn, evE_and, evE_or, evAnd_one, evAnd_cons, evOr_one, evOr_cons, evE_ife, evE_tup, evE_lst, evE_dic, evE_dic0, evE_sub, evE_slc, evE_rev, evE_call, evE_blt, evE_isT, evE_cix, evE_mth, evE_lsI, evE_lc, evEs_nil, evEs_cons, evAs_nil, evAs_one, evAs_star, evKs_nil, evKs_cons, evO_none, evO_some, evIfs_nil, evIfs_one, evI_ex, evI_rg1, evI_rg2, evI_enu, evI_zip, seqO_nx, seqO_rt, seqO_bk, seqO_ct, seqO_exc, seqO_fail, evSs_nil, evSs_cons, setR_ok, setR_exc, borT_ok, evT_bor, evT_own, evT_dic0, evTs_nil, consT_ok, evTs_cons, setTs_nil, setTs_cons, nxO_some, unpR_ok, unpR_exc, parR_ok, parR_exc, putR_fl, putR_fd, appR_fl, expR_ok, expR_exc, retR_ok, retR_exc, forR_ok, forR_exc, rseR_ok, triR_ok, triR_exc, item0_ok, enu0_ok, zip0_ok, evI0_ex, evI0_enu, evI0_zip, evI0_rg1, evI0_rg2, evS_set, evS_unp, evS_par, evS_put, evS_app, evS_exp, evS_ret, evS_ifs, evS_forr, evS_rse, evS_tri, evS_frz, idxR_some, atI_zero, atI_one, atI_two, atI_three, atI_four, atI_five, atI_snoc, bin_add, bin_sub, bin_addL, bin_addT, bin_mul, bin_fdiv, bin_mod, bin_pow, neg_int, cmp_lt, cmp_le, cmp_gt, cmp_ge, ecmp_lt, ecmp_le, cmp_eq_int, cmp_ne_int, cmp_eq_str, cmp_ne_str, cmp_is, cmp_isnot, isNon_non, isNon_int, isNon_str, isNon_tup, isNon_lst, isNon_dct, tru_bl, tru_int, tru_lst, notB_bl, idx_lst, idx_tup, idx_scr, slc_lst, slc_tup, len_lst, len_tup, len_str, len_scr, abs_int, min_int, max_int, int_int, int_bl, list_lst, list_tup, tuple_lst, tuple_tup, sum_ints, all_bls, any_bls, all_map, any_map, items_lst, items_tup, upL_le_one, maxLv_nil, maxLv_cons, lvlOf_int, lvlOf_bl, lvlOf_str, lvlOf_non, bind_nm, bind_tp, bindC_some, binds_nil, binds_cons, wipeE_nil, wipeE_cons, finR_rt, finR_nx, finR_exc, loopO_nx, loopO_ct, loopO_bk, loopO_rt, loopO_exc, loopB_some, forLoop_nil, forLoop_cons, enumI_nil, enumI_cons, zipI_map, mkLst_map, if_true, Bool.true_or, Bool.or_true, List.set_cons_succ, List.set_cons_zero, idxI, aj, m1, s64_6, s64_65536, hm, mkI0, mkI1, mkI4, mkI5, addI, eo, slcI, lenI, sumI, revI, hbent, t1, t2, t3, t4, t5, cmp_r, hisT, Bool.and_false, Bool.or_false, Bool.false_or, ne_eq, decide_not, mkIL4, List.map_cons, List.map_nil, lvlOf_zero, pr_zero, e6]
end Ev.K51
set_option Elab.async false
set_option linter.all false
set_option maxRecDepth 100000
set_option maxHeartbeats 4000000
namespace Ev.K51
open PySem PySem.Spec PyProof.Rows L2
theorem l5_loop (k : Nat) (ds N : List Int) (hN : N.length ≤ 1000) (good : ∃ c d, readP N = .ok (c, d)) (s0 s2 s3 s4 s5 s7 s8 s18 s19 s20 : Option T) : ∀ (m j : Nat) (s9 s10 s11 s12 s13 s14 s15 s16 s17 : Option T), j + m = N.length →
    ∃ s9' s10' s11' s12' s13' s14' s15' s16' s17', forLoop (Tg.nm 9 z q).bind (evSs Cc (G (k + 6)) sub L5_law) (rangeI j m) [s0, some (.bor (iL ds) 0), s2, s3, s4, s5, some (.bor (iL N) 0), s7, s8, s9, s10, s11, s12, s13, s14, s15, s16, s17, s18, s19, s20] =
      .ok (.nx [s0, some (.bor (iL ds) 0), s2, s3, s4, s5, some (.bor (iL N) 0), s7, s8, s9', s10', s11', s12', s13', s14', s15', s16', s17', s18, s19, s20])
  | 0, j, s9, s10, s11, s12, s13, s14, s15, s16, s17, _ => ⟨s9, s10, s11, s12, s13, s14, s15, s16, s17, rfl⟩
  | m + 1, j, s9, s10, s11, s12, s13, s14, s15, s16, s17, h => by
    obtain ⟨t10, t11, t12, t13, t14, t15, t16, t17, eb⟩ := l5_body k ds N hN j (by omega) good s0 s2 s3 s4 s5 s7 s8 s10 s11 s12 s13 s14 s15 s16 s17 s18 s19 s20
    obtain ⟨u9, u10, u11, u12, u13, u14, u15, u16, u17, ih⟩ := l5_loop k ds N hN good s0 s2 s3 s4 s5 s7 s8 s18 s19 s20 m (j + 1) (some (.bor (.int j) 0)) t10 t11 t12 t13 t14 t15 t16 t17 (by omega)
    refine ⟨u9, u10, u11, u12, u13, u14, u15, u16, u17, ?_⟩
    rw [rangeI_succ]
    simp only [forLoop_cons, bind_nm, List.length_cons, List.length_nil, List.set_cons_succ, List.set_cons_zero, loopB_some, show (9 : Nat) < 0 + 1 + 1 + 1 + 1 + 1 + 1 + 1 + 1 + 1 + 1 + 1 + 1 + 1 + 1 + 1 + 1 + 1 + 1 + 1 + 1 + 1 from by decide, if_true, eb, loopO_nx]
    exact ih
/-! ### the last rows -/
def long : List Int := [23588, 65535, 0, 0, 0, 0, 0]
theorem r_long : readP long = .error 7 := by kernel_rfl
theorem r_2 : readP [23588, 65536] = .error 1 := by kernel_rfl
theorem r_3 : readP [23588, 0, 65] = .error 2 := by kernel_rfl
theorem r_4 : readP [23588, 0, 0, 23588] = .ok ([], []) := by kernel_rfl
theorem r_0 : readP [] = .error 0 := by kernel_rfl
theorem mul_long : evBin .Mult (iL [0], 0) (.int 5, 0) = .ok (iL [0, 0, 0, 0, 0], 0) := by kernel_rfl
def bad0 : Ins := ⟨3, [8, 0]⟩
theorem bad0_D : D.tup [.str "li", .int 8, .int 0] = bad0.D := rfl
theorem good_mono {i : Ins} {a b : Int} (h : i.good a = true) (hab : a ≤ b) : i.good b = true := by
  unfold Ins.good at h ⊢
  rw [okI_iff] at h ⊢
  refine ⟨h.1, fun p hp => ⟨(h.2 p hp).1, ?_⟩⟩
  have := (h.2 p hp).2
  cases hk : p.2 <;> rw [hk] at this <;> simp [bdK] at this ⊢ <;> omega
theorem bad0_bad (b : Int) : bad0.good b = false := by
  cases h : bad0.good b with
  | false => rfl
  | true =>
    unfold Ins.good at h
    rw [okI_iff] at h
    have := (h.2 (8, .d) (by show (8, Kd.d) ∈ [(8, Kd.d), (0, Kd.n)]; simp)).2
    simp [bdK] at this
theorem badAt_mid {c e : List Ins} {many : Int} (h : ∀ i ∈ c, i.good many = true) : badAt (c ++ bad0 :: e) many = some c.length := by
  induction c with
  | nil =>
    unfold badAt
    rw [List.nil_append, List.findIdx?_cons]
    simp [bad0_bad]
  | cons i c ih =>
    have := ih fun x hx => h x (List.mem_cons_of_mem _ hx)
    unfold badAt at this ⊢
    rw [List.cons_append, List.findIdx?_cons]
    simp [h i (List.mem_cons_self ..), this]
def cutC (c : List Ins) (lo hi : Option Int) : List Ins := (c.drop (HT.sIx c.length 0 lo)).take (HT.sIx c.length c.length hi - HT.sIx c.length 0 lo)
theorem slcC (c : List Ins) (lo hi : Option Int) : evSlc (codeD c, 0) lo hi = .ok (codeD (cutC c lo hi), 0) := by
  unfold codeD
  rw [slc_lst]
  unfold cutD cutC
  rw [List.map_take, List.map_drop, List.length_map]; rfl
theorem cutC_take {xs : List Ins} {k : Nat} (h : k ≤ xs.length) : cutC xs none (some (k : Int)) = xs.take k := by
  unfold cutC
  rw [HT.sIx_nat, HT.sIx_none, Nat.min_eq_left h]
  simp
theorem cutC_drop {xs : List Ins} {k : Nat} (h : k ≤ xs.length) : cutC xs (some (k : Int)) none = xs.drop k := by
  unfold cutC
  rw [HT.sIx_nat, HT.sIx_none, Nat.min_eq_left h]
  apply List.take_of_length_le
  rw [List.length_drop]; omega
theorem addC {xs ys : List Ins} (h : xs.length + ys.length ≤ 200000) : evBin .Add (codeD xs, 0) (codeD ys, 0) = .ok (codeD (xs ++ ys), 0) := by
  unfold codeD
  rw [bin_addL, if_pos (by rw [List.length_map, List.length_map]; unfold sizeLine; omega), List.map_append]; rfl
theorem lenC (xs : List Ins) (k : Nat) : evBlt .len [(codeD xs, k)] = .ok (.int xs.length, 0) := by
  unfold codeD
  rw [len_lst, List.length_map]
theorem mkC1 (i : Ins) : mkLst [(i.D, 0)] = .ok (codeD [i], 0) := by simp [mkLst, codeD, upL]
def dA : Dat := [(64, 0)]
def dB : Dat := [(0, 1), (5, 65536), (70, 1)]
def dC : Dat := [(-1, 0)]
def dE : Dat := [(3, 1), (64, 1)]
def dF : Dat := [(2, -1)]
theorem dA_D : mkDic [(.int 64, (.int 0, 0))] = .ok (dA.e, 0) := by kernel_rfl
theorem dB_D : mkDic [(.int 0, (.int 1, 0)), (.int 5, (.int 65536, 0)), (.int 70, (.int 1, 0))] = .ok (dB.e, 0) := by kernel_rfl
theorem dC_D : mkDic [(.int (-1), (.int 0, 0))] = .ok (dC.e, 0) := by kernel_rfl
theorem dE_D : mkDic [(.int 3, (.int 1, 0)), (.int 64, (.int 1, 0))] = .ok (dE.e, 0) := by kernel_rfl
theorem dF_D : mkDic [(.int 2, (.int (-1), 0))] = .ok (dF.e, 0) := by kernel_rfl
theorem dB_b : dB.badAt dB.keys = some 1 := by
  rw [show dB.keys = [0, 5, 70] from sortI_asc (by simp [dB])]
  decide +kernel
theorem dC_b : dC.badAt dC.keys = some 0 := by decide +kernel
theorem dE_b : dE.badAt dE.keys = some 1 := by
  rw [show dE.keys = [3, 64] from sortI_asc (by simp [dE])]
  decide +kernel
theorem dF_b : dF.badAt dF.keys = some 0 := by decide +kernel
def rf (s : Str) (a : Int) : D := .tup [.str s, .int a]
theorem mkT2 (s : Str) (a : Int) : mkTup [(.str s, 0), (.int a, 0)] = .ok (rf s a, 0) := by simp [mkTup, upL, rf]
theorem e_ref (k : Nat) {c : List Ins} (hc : GoodC c.length c) (hl : c.length ≤ 1000) (d : Dat) (hd : d.length ≤ 1000) {j : Nat} (hb : d.badAt d.keys = some j) : callD (G (k + 6)) 20 [(codeD c, 0), (d.e, 0)] = .ok (rf "data" j, 0) := by
  have := callD_ok (xs := [(codeD c, 0), (d.e, 0)]) (sp_refused (k + 1) (fun i hi => (hc i hi).1) hl d hd)
  have n1 : ¬ ("BadData" : Str) = "BadCode" := by decide +kernel
  rw [this]
  unfold imgR
  rw [code_none hc]
  dsimp only
  rw [hb]
  simp [refD, n1, rf]
theorem e_ref0 (k : Nat) {c : List Ins} (hc : ∀ i ∈ c, i.Ok) (hl : c.length ≤ 1000) (d : Dat) (hd : d.length ≤ 1000) {j : Nat} (hb : badAt c c.length = some j) : callD (G (k + 6)) 20 [(codeD c, 0), (d.e, 0)] = .ok (rf "code" j, 0) := by
  have := callD_ok (xs := [(codeD c, 0), (d.e, 0)]) (sp_refused (k + 1) hc hl d hd)
  rw [this]
  unfold imgR
  rw [hb]
  simp [refD, rf]
theorem mkR2 (a b : Str) (x y : Int) : mkLst [(rf a x, 0), (rf b y, 0)] = .ok (.lst [rf a x, rf b y], 0) := by simp [mkLst, upL]
theorem mkR3 (a b c : Str) (x y w : Int) : mkLst [(rf a x, 0), (rf b y, 0), (rf c w, 0)] = .ok (.lst [rf a x, rf b y, rf c w], 0) := by simp [mkLst, upL]
theorem mkR5 (a b c d e : Str) (x y w u v : Int) : mkLst [(rf a x, 0), (rf b y, 0), (rf c w, 0), (rf d u, 0), (rf e v, 0)] = .ok (.lst [rf a x, rf b y, rf c w, rf d u, rf e v], 0) := by simp [mkLst, upL]
theorem addR23 (a b c d e : Str) (x y w u v : Int) : evBin .Add (.lst [rf a x, rf b y], 0) (.lst [rf c w, rf d u, rf e v], 0) = .ok (.lst [rf a x, rf b y, rf c w, rf d u, rf e v], 0) := by
  rw [bin_addL, if_pos (by simp)]; rfl
theorem eqR5 (a b c d e : Str) (x y w u v : Int) : cmpE .Eq (.lst [rf a x, rf b y, rf c w, rf d u, rf e v], 0) (.lst [rf a x, rf b y, rf c w, rf d u, rf e v], 0) = .ok (.bl true, 0) := by
  have f : (D.lst [rf a x, rf b y, rf c w, rf d u, rf e v]).fits = true := fits_of (n := 2) (by simp [rf, D.dep, D.deps]) (by decide)
  rw [cmp_eq_pl rfl rfl f f]
  simp
end Ev.K51
set_option Elab.async false
set_option linter.all false
set_option maxRecDepth 100000
set_option maxHeartbeats 4000000
namespace Ev.K51
open PySem PySem.Spec PyProof.Rows L2
theorem asc_ne {d : Dat} (h : Asc d) : d.Pairwise (fun p q => p.1 ≠ q.1) := List.Pairwise.imp (fun h => by omega) h
theorem rev_ne {d : Dat} (h : Asc d) : d.reverse.Pairwise (fun p q => p.1 ≠ q.1) := List.pairwise_reverse.mpr ((asc_ne h).imp fun h => Ne.symm h)
theorem sorted_e {d : Dat} (ha : Asc d) (hl : d.length ≤ 64) (k : Nat) : evBlt .sorted [(.dct false (dI d.x), k)] = .ok (iL (d.map (·.1)), 0) := by
  have := sorted_dI d.x (by unfold Dat.x; rw [List.length_map]; omega) k
  rw [show d.x.map (·.1) = d.map (·.1) by unfold Dat.x; rw [List.map_map]; rfl, sortI_asc (asc_keys ha)] at this
  exact this
theorem idx_e {d : Dat} (ha : Asc d) {p : Int × Int} (hp : p ∈ d) (k l : Nat) : evIdx (.dct false (dI d.x), k) (.int p.1, l) = .ok (.int p.2, 0) := by
  have h : (d.x.find? fun x => decide (x.1 = p.1)).map (·.2) = some (.int p.2) := by
    unfold Dat.x
    rw [List.find?_map]
    rw [show List.find? ((fun x : Int × D => decide (x.1 = p.1)) ∘ fun p : Int × Int => (p.1, D.int p.2)) d = some p from Dat.get_of ha hp]; rfl
  have := idx_dI h k l
  simpa using this
theorem mkI_map {α : Type} (f : α → Int) (xs : List α) (h : xs.length ≤ 1000) : mkLst (xs.map fun x => (.int (f x), 0)) = .ok (iL (xs.map f), 0) := by
  have := mkLst_map (fun x => D.int (f x)) xs (by unfold sizeLine; omega)
  rw [this]
  unfold iL
  rw [List.map_map]; rfl
theorem itemsK (d : Dat) : itemsOf (iL (d.map (·.1)), 0) = .ok (d.map fun p => (.int p.1, 0)) := by
  unfold iL
  rw [items_lst, List.map_map, List.map_map]; rfl
theorem itemsR (d : Dat) : itemsOf (iL (d.map (·.1)).reverse, 0) = .ok (d.reverse.map fun p => (.int p.1, 0)) := by
  rw [← List.map_reverse]
  exact itemsK d.reverse
theorem itemsC (c : List Ins) : itemsOf (codeD c, 0) = .ok (c.map fun i => (i.D, 0)) := by
  unfold codeD
  rw [items_lst, List.map_map]; rfl
theorem lc2 (Γ : Fns) {d : Dat} (ha : Asc d) (s0 s1 s2 s5 s6 s7 s8 s9 s10 s11 s12 s13 s14 s15 s16 s17 s18 s19 s20 : Option T) : lcLoop (Tg.nm 4 z q).bind (evIfs Cc Γ []) (evE Cc Γ C2_law) [s0, s1, s2, some (.fd false (dI d.x)), none, s5, s6, s7, s8, s9, s10, s11, s12, s13, s14, s15, s16, s17, s18, s19, s20] (d.map fun p => (.int p.1, 0)) = .ok (d.map fun p => (.int (p.1 * 65536 + p.2), 0)) :=
  lcLoop_all (g := fun p : Int × Int => (D.int (p.1 * 65536 + p.2), 0)) fun p hp => ⟨_, by simp; rfl, rfl, by simp [C2_law, idx_e ha hp]⟩
theorem lc3 (k : Nat) {c : List Ins} (hc : ∀ i ∈ c, i.Ok) (s0 s1 s2 s3 s4 s5 s6 s8 s9 s10 s11 s12 s13 s14 s15 s16 s17 s18 s19 s20 : Option T) : lcLoop (Tg.nm 7 z q).bind (evIfs Cc (G (k + 2)) []) (evE Cc (G (k + 2)) C3_law) [s0, s1, s2, s3, s4, s5, s6, none, s8, s9, s10, s11, s12, s13, s14, s15, s16, s17, s18, s19, s20] (c.map fun i => (i.D, 0)) = .ok (c.map fun i => (.int i.wr, 0)) :=
  lcLoop_all (g := fun i : Ins => (D.int i.wr, 0)) fun i hi => ⟨_, by simp; rfl, rfl, by simp [C3_law]; exact callD_ok (sp_lwr k (hc i hi))⟩
theorem lc4 (Γ : Fns) {d : Dat} (ha : Asc d) (s0 s1 s2 s5 s6 s7 s8 s9 s10 s11 s12 s13 s14 s15 s16 s17 s18 s19 s20 : Option T) : lcLoop (Tg.nm 4 z q).bind (evIfs Cc Γ []) (evE Cc Γ C4_law) [s0, s1, s2, some (.fd false (dI d.x)), none, s5, s6, s7, s8, s9, s10, s11, s12, s13, s14, s15, s16, s17, s18, s19, s20] (d.reverse.map fun p => (.int p.1, 0)) = .ok (d.reverse.map fun p => (.tup [.int p.1, .int p.2], 0)) :=
  lcLoop_all (g := fun p : Int × Int => (D.tup [.int p.1, .int p.2], 0)) fun p hp => ⟨_, by simp; rfl, rfl, by simp [C4_law, idx_e ha (List.mem_reverse.mp hp), mkTup, upL]⟩
theorem law_true : ∀ ns : List Int, ns.length ≤ 63 → d_law.run Cc sub (deep Cc sub df lawDepth) [.scr ns] = .ok (.bl true) := by
  intro scr hscr
  show d_law.run Cc sub (G 12) _ = _
  rw [run_eq _ _ _ _ _ rfl]
  obtain ⟨ds, e0, hds⟩ := sp_draws 11 scr
  have e0 : callD (G 12) 11 [(.scr scr, 0)] = .ok (iL ds, 0) := callD_ok e0
  have m1 : ∀ (x n : Int), 0 < n → callD (G 12) 12 [(iL ds, 0), (.int x, 0), (.int n, 0)] = .ok (.int (mixN ds x n), 0) := fun x n hn => c_mix 11 ds x hn 0 0 0
  obtain ⟨many, em⟩ : ∃ many : Nat, mixN ds 1 21 = many := ⟨(mixN ds 1 21).toNat, by have := mix_ge ds 1 (many := 21) (by decide); omega⟩
  have hm21 : many < 21 := by have := mix_lt ds 1 (many := 21) (by decide); omega
  obtain ⟨c, e1, hcl, hcg⟩ := sp_code 10 ds 20 many (by omega)
  have e1 : callD (G 12) 18 [(iL ds, 0), (.int 20, 0), (.int many, 0)] = .ok (codeD c, 0) := callD_ok e1
  subst hcl
  obtain ⟨d, s4, e2, hA, hR, hdl⟩ := lp_dat 11 scr ds c 64 0 [] none (by omega) List.Pairwise.nil (by intro p hp; cases hp) (by simp) (by intro p hp; cases hp)
  have e2 : forLoop (Tg.nm 4 z q).bind (evSs Cc (G 12) sub L1_law) (rangeI 0 64) [some (T.bor (.scr scr) 0), some (T.bor (iL ds) 0), some (T.bor (codeD c) 0), some (.fd false []), none, none, none, none, none, none, none, none, none, none, none, none, none, none, none, none, none] = .ok (.nx [some (T.bor (.scr scr) 0), some (T.bor (iL ds) 0), some (T.bor (codeD c) 0), some (.fd false (dI (Dat.x d))), s4, none, none, none, none, none, none, none, none, none, none, none, none, none, none, none, none]) := e2
  have hdl : d.length ≤ 64 := by omega
  have hcl : c.length ≤ 1000 := by omega
  have hcok : ∀ i ∈ c, i.Ok := fun i hi => (hcg i hi).1
  -- the numbers
  have hfl := front_len c d
  generalize hN : front c d ++ [(front c d).sum % 4294967296] = N at *
  have hNl : N.length = 3 + c.length + d.length + 1 := by rw [← hN, List.length_append, hfl]; rfl
  have hNr : readP N = .ok (c, d.x) := by
    rw [← hN, read_front hcg hcl hA hR hdl]
    unfold rdEnd
    rw [if_neg (by rw [List.length_append, hfl]; simp), if_neg]
    intro h
    apply h
    rw [← hfl, List.take_left']
    · rw [List.getD_eq_getElem?_getD, List.getElem?_append_right (Nat.le_refl _)]; simp
    · rfl
  have hNt : readP (front c d) = .error (N.length - 1) := by
    have := read_front hcg hcl hA hR hdl []
    rw [List.append_nil] at this
    rw [this]
    unfold rdEnd
    rw [if_pos (by omega), hfl, Nat.min_eq_right (by omega), hNl]; rfl
  have hN0 : readP (N ++ [0]) = .error N.length := by
    rw [← hN, List.append_assoc, read_front hcg hcl hA hR hdl]
    unfold rdEnd
    rw [if_pos (by simp [hfl]), List.length_append, List.length_append, hfl]
    simp
    omega
  have i1 : callD (G 12) 6 [(codeD c, 0), (Dat.e d.reverse, 0)] = .ok (iL N, 0) := by
    have z := sp_image 8 hcok hcl d.reverse (by rw [List.length_reverse]; omega)
    unfold imgR at z
    rw [code_none hcg] at z
    dsimp only at z
    rw [bad_none hA hR (List.reverse_perm d), imgN_of hA (List.reverse_perm d), hN] at z
    exact callD_ok z
  have t1 : callD (G 12) 17 [(iL N, 0)] = .ok (resD (readP N), 0) := e_told 6 (by omega)
  have t2 : callD (G 12) 16 [(iL N, 0)] = .ok (resD (readP N), 0) := e_read 6 (by omega)
  have hrs : D.tup [codeD c, .dct false (dI d.x)] = resD (readP N) := by rw [hNr]; rfl
  have t3 : callD (G 12) 17 [(iL (front c d), 0)] = .ok (.int ((N.length : Int) - 1), 0) := by
    have := e_told 6 (ns := front c d) (by omega)
    rw [hNt] at this
    rw [show ((N.length : Int) - 1) = ((N.length - 1 : Nat) : Int) by omega]
    exact this
  have t4 : callD (G 12) 17 [(iL (N ++ [0]), 0)] = .ok (.int N.length, 0) := by
    have := e_told 6 (ns := N ++ [0]) (by simp; omega)
    rw [hN0] at this; exact this
  have q1 : callD (G 12) 17 [(iL ([23588, 65535] ++ [0, 0, 0, 0, 0]), 0)] = .ok (.int 7, 0) := by
    have := e_told 6 (ns := long) (by decide)
    rw [r_long] at this; exact this
  have q2 : callD (G 12) 17 [(iL [23588, 65536], 0)] = .ok (.int 1, 0) := by
    have := e_told 6 (ns := [23588, 65536]) (by decide)
    rw [r_2] at this; exact this
  have q3 : callD (G 12) 17 [(iL [23588, 0, 65], 0)] = .ok (.int 2, 0) := by
    have := e_told 6 (ns := [23588, 0, 65]) (by decide)
    rw [r_3] at this; exact this
  have q4 : callD (G 12) 17 [(iL [23588, 0, 0, 23588], 0)] = .ok (resD (readP [23588, 0, 0, 23588]), 0) := e_told 6 (by decide)
  have q4' : D.tup [iL [], .dct false []] = resD (readP [23588, 0, 0, 23588]) := by rw [r_4]; rfl
  have q5 : callD (G 12) 17 [(iL [], 0)] = .ok (.int 0, 0) := by
    have := e_told 6 (ns := []) (by decide)
    rw [r_0] at this; exact this
  have hcut : cutN N none (some ((N.length : Int) - 1)) = front c d := by
    rw [show ((N.length : Int) - 1) = ((N.length - 1 : Nat) : Int) by omega, cut_take (by omega), ← hN]
    rw [List.take_left']
    rw [hfl, hN, hNl]; rfl
  obtain ⟨s, es⟩ : ∃ s : Nat, mixN ds 3 ((c.length : Int) + 1) = s := ⟨(mixN ds 3 ((c.length : Int) + 1)).toNat, by have := mix_ge ds 3 (many := (c.length : Int) + 1) (by omega); omega⟩
  have hs : s ≤ c.length := by have := mix_lt ds 3 (many := (c.length : Int) + 1) (by omega); omega
  have m3 := m1 3 ((c.length : Int) + 1) (by omega)
  rw [es] at m3
  have b0 : callD (G 12) 20 [(codeD (c.take s ++ [bad0] ++ c.drop s), 0), (dA.e, 0)] = .ok (rf "code" s, 0) := by
    have hok : ∀ i ∈ c.take s ++ [bad0] ++ c.drop s, i.Ok := by
      intro i hi
      rcases List.mem_append.mp hi with hi | hi
      · rcases List.mem_append.mp hi with hi | hi
        · exact hcok i (List.mem_of_mem_take hi)
        · rw [List.mem_singleton.mp hi]; show (3 : Nat) < 24; decide
      · exact hcok i (List.mem_of_mem_drop hi)
    have hlen : (c.take s ++ [bad0] ++ c.drop s).length = c.length + 1 := by
      rw [List.length_append, List.length_append, List.length_take, List.length_drop]
      simp; omega
    refine e_ref0 6 hok (by omega) dA (by decide) ?_
    rw [hlen]
    have := badAt_mid (c := c.take s) (e := c.drop s) (many := ((c.length + 1 : Nat) : Int)) (fun i hi => good_mono (hcg i (List.mem_of_mem_take hi)).2.1 (by omega))
    rw [List.append_assoc]
    rw [List.length_take, Nat.min_eq_left hs] at this
    exact this
  have b1 : callD (G 12) 20 [(codeD c, 0), (dB.e, 0)] = .ok (rf "data" 1, 0) := e_ref 6 hcg hcl dB (by decide) dB_b
  have b2 : callD (G 12) 20 [(codeD c, 0), (dC.e, 0)] = .ok (rf "data" 0, 0) := e_ref 6 hcg hcl dC (by decide) dC_b
  have b3 : callD (G 12) 20 [(codeD c, 0), (dE.e, 0)] = .ok (rf "data" 1, 0) := e_ref 6 hcg hcl dE (by decide) dE_b
  have b4 : callD (G 12) 20 [(codeD c, 0), (dF.e, 0)] = .ok (rf "data" 0, 0) := e_ref 6 hcg hcl dF (by decide) dF_b
  have r4 := dict_map (rev_ne hA)
  have r5 : mkLst (d.reverse.map fun p => (D.tup [.int p.1, .int p.2], 0)) = .ok (.lst (d.reverse.map fun p => D.tup [.int p.1, .int p.2]), 0) := mkLst_map (fun p : Int × Int => D.tup [.int p.1, .int p.2]) d.reverse (by rw [List.length_reverse]; unfold sizeLine; omega)
  have r2 := mkI_map (fun p : Int × Int => p.1 * 65536 + p.2) d (by omega)
  have r3 := mkI_map Ins.wr c hcl
  have hrl : (d.map fun p => p.1 * 65536 + p.2).length = d.length := List.length_map _
  have hwl : (c.map Ins.wr).length = c.length := List.length_map _
  have hfr : [23588, (c.length : Int)] ++ c.map Ins.wr ++ [(d.length : Int)] ++ (d.map fun p => p.1 * 65536 + p.2) = front c d := by simp [front]
  have se := sorted_e hA hdl 1
  have t5 : mkTup [(codeD c, 0), (.dct false (dI d.x), 1)] = .ok (resD (readP N), 2) := by rw [← hrs]; simp [mkTup, upL]
  have t6 : mkTup [(iL [], 0), (.dct false [], 0)] = .ok (resD (readP [23588, 0, 0, 23588]), 0) := by rw [← q4']; simp [mkTup, upL]
  have t7 : mkTup [(.str "li", 0), (.int 8, 0), (.int 0, 0)] = .ok (bad0.D, 0) := by rw [← bad0_D]; simp [mkTup, upL]
  obtain ⟨u9, u10, u11, u12, u13, u14, u15, u16, u17, e5⟩ := l5_loop 6 ds N (by omega) ⟨c, d.x, hNr⟩ (some (T.bor (.scr scr) 0)) (some (T.bor (codeD c) 0)) (some (.fd false (dI d.x))) s4 (some (T.bor (iL (d.map fun p => p.1 * 65536 + p.2)) 0)) none (some (T.bor (iL N) 0)) none none none N.length 0 none none none none none none none none none (by omega)
  have e5 : forLoop (Tg.nm 9 z q).bind (evSs Cc (G 12) sub L5_law) (rangeI 0 N.length) _ = _ := e5
  have h62 : small62 (N.length : Int) = true := s62_of (by omega) (by omega)
  have cs1 : cutC c none (some (s : Int)) = c.take s := cutC_take hs
  have cs2 : cutC c (some (s : Int)) none = c.drop s := cutC_drop hs
  have ctl : (c.take s).length ≤ 1000 := by rw [List.length_take]; omega
  have cdl : (c.drop s).length ≤ 1000 := by rw [List.length_drop]; omega
  simp only [d_law, b_law, startE, List.map_cons, List.map_nil, List.length_cons, List.length_nil, List.cons_append, List.nil_append, Nat.reduceAdd, Nat.reduceSub, List.replicate_succ, List.replicate_zero]
  simp (disch := first | assumption | omega | (simp only [List.length_append, List.length_cons, List.length_nil, List.length_reverse]; omega) | decide) only [ap1_ok, ap1_exc, ap1_fail, ap2_ok, ap2_exc, ap2_exc2, ap3_ok, ap3_exc, getV_some, slot_zero, slot_succ, slotT_zero, slotT_succ, frzA_zero, frzA_succ, frzO_nil, frzO_cons, frz_bor, frz_fl, frz_fd, stale_nil, stale_cons, stale1_bor, stale1_fl, stale1_fd, stale1_none, toD_bor, toD_fl, toD_fd, lvl_bor, lvl_fl, lvl_fd, pr_one, mkB_ok, chn3_ok, chnB_true, chnB_false, andZ_true, andZ_false, orZ_true, orZ_false, andZ_bl, orZ_bl, chnB_b, andR_true, andR_false, andR_bl, orR_true, orR_false, orR_bl, ifX_ok, ifX_exc, ifB_true, ifB_false, consA_ok, appA_ok, spl1_lst, spl1_tup, cons3_ok, optI_int, revE_lst, cixR_ok, mthR_get, lsI1_eq, lcR_ok, lcR_exc, intE_int, enuE_lst, zipE_ok, evE_var, evE_cst, evE_int, evE_bl, evE_non, evE_str, evE_bin, evE_neg, evE_not, evE_cmp, evE_chn, evE_and, evE_or, evAnd_one, evAnd_cons, evOr_one, evOr_cons, evE_ife, evE_tup, evE_lst, evE_dic, evE_dic0, evE_sub, evE_slc, evE_rev, evE_call, evE_blt, evE_isT, evE_cix, evE_mth, evE_lsI, evE_lc, evEs_nil, evEs_cons, evAs_nil, evAs_one, evAs_star, evKs_nil, evKs_cons, evO_none, evO_some, evIfs_nil, evIfs_one, evI_ex, evI_rg1, evI_rg2, evI_enu, evI_zip, seqO_nx, seqO_rt, seqO_bk, seqO_ct, seqO_exc, seqO_fail, evSs_nil, evSs_cons, setR_ok, setR_exc, borT_ok, evT_bor, evT_own, evT_dic0, evTs_nil, consT_ok, evTs_cons, setTs_nil, setTs_cons, nxO_some, unpR_ok, unpR_exc, parR_ok, parR_exc, putR_fl, putR_fd, appR_fl, expR_ok, expR_exc, retR_ok, retR_exc, forR_ok, forR_exc, rseR_ok, triR_ok, triR_exc, item0_ok, enu0_ok, zip0_ok, evI0_ex, evI0_enu, evI0_zip, evI0_rg1, evI0_rg2, evS_set, evS_unp, evS_par, evS_put, evS_app, evS_exp, evS_ret, evS_ifs, evS_forr, evS_rse, evS_tri, evS_frz, idxR_some, atI_zero, atI_one, atI_two, atI_three, atI_four, atI_five, atI_snoc, bin_add, bin_sub, bin_addT, bin_mul, bin_fdiv, bin_mod, bin_pow, neg_int, cmp_lt, cmp_le, cmp_gt, cmp_ge, ecmp_lt, ecmp_le, cmp_eq_int, cmp_ne_int, cmp_eq_str, cmp_ne_str, cmp_is, cmp_isnot, isNon_non, isNon_int, isNon_str, isNon_tup, isNon_lst, isNon_dct, tru_bl, tru_int, tru_lst, notB_bl, idx_lst, idx_tup, idx_scr, slc_lst, slc_tup, len_lst, len_tup, len_str, len_scr, abs_int, min_int, max_int, int_int, int_bl, list_lst, list_tup, tuple_lst, tuple_tup, sum_ints, all_bls, any_bls, all_map, any_map, items_lst, items_tup, upL_le_one, maxLv_nil, maxLv_cons, lvlOf_int, lvlOf_bl, lvlOf_str, lvlOf_non, bind_nm, bind_tp, bindC_some, binds_nil, binds_cons, wipeE_nil, wipeE_cons, finR_rt, finR_nx, finR_exc, loopO_nx, loopO_ct, loopO_bk, loopO_rt, loopO_exc, loopB_some, forLoop_nil, forLoop_cons, enumI_nil, enumI_cons, zipI_map, mkLst_map, if_true, Bool.true_or, Bool.or_true, List.set_cons_succ, List.set_cons_zero, List.map_cons, List.map_nil, e0, m1, em, e1, e2, rg1R, s62_64, show Int.toNat 64 = 64 from rfl, se, itemsK, lc2 (G 12) hA, r2, lenC, mkI2, itemsC, lc3 10 hcok, r3, lenI, hrl, mkI1, addI, hfr, sumI, hN, listI, revI, itemsR, lc4 (G 12) hA, r5, r4, i1,
    show decide ((0 : Int) < 4294967296) = true from rfl, cmp_neI, eq_self, decide_true, Bool.not_true, Bool.not_false, t1, t2, t3, t4, t5, t6, t7, cmp_r, Int.toNat_natCast, h62, e5, slcI, hcut, ne_eq, not_true_eq_false, decide_false, not_false_eq_true, mkI0, mkI3, mkI4, mul_long, q1, q2, q3, q4, q5, m3, slcC, cs1, cs2, mkC1, addC, dA_D, dB_D, dC_D, dE_D, dF_D, b0, b1, b2, b3, b4, mkR2, mkR3, mkR5, addR23, mkT2, eqR5, es, Option.map_some, Bool.or_false, Bool.or_self, Bool.false_or]
end Ev.K51
set_option Elab.async false
set_option linter.all false
set_option maxRecDepth 100000
set_option maxHeartbeats 4000000
namespace Ev.K51
open PySem PySem.Spec PyProof.Rows L2
theorem xs_of : ∀ c c' b, sub c c' = some b → xn c = true := by
  intro c c' b h
  have m := subT_mem h
  have a : (tab.all fun p => xn p.1) = true := by decide +kernel
  exact List.all_eq_true.mp a _ m
theorem all_mk {l : PySem.W.OpenLaw} {w : World} {K : PySem.W.Frag} {h : Heap} {mg : Str → Option Value} {fa : Addr} {m k : Nat} (hk : k + 5 = m) (hg : ∀ ns : List Int, ns.length ≤ 63 → d_law.run Cc sub (deep Cc sub df k) [.scr ns] = .ok (.bl true)) (X : K.In h) (G : h.Ns mainGlobals mg) (hfa : mg "law" = some (.ref fa))
    {f0 : Addr} {oc0 kV0 dc0 pm0 cd0 ct0 : Value} {od0 an0 : Option Addr} {sl0 : Array (Option Value)}
    {f1 : Addr} {oc1 kV1 dc1 pm1 cd1 ct1 : Value} {od1 an1 : Option Addr} {sl1 : Array (Option Value)}
    {f2 : Addr} {oc2 kV2 dc2 pm2 cd2 ct2 : Value} {od2 an2 : Option Addr} {sl2 : Array (Option Value)}
    {f3 : Addr} {oc3 kV3 dc3 pm3 cd3 ct3 : Value} {od3 an3 : Option Addr} {sl3 : Array (Option Value)}
    {f4 : Addr} {oc4 kV4 dc4 pm4 cd4 ct4 : Value} {od4 an4 : Option Addr} {sl4 : Array (Option Value)}
    {f5 : Addr} {oc5 kV5 dc5 pm5 cd5 ct5 : Value} {od5 an5 : Option Addr} {sl5 : Array (Option Value)}
    {f6 : Addr} {oc6 kV6 dc6 pm6 cd6 ct6 : Value} {od6 an6 : Option Addr} {sl6 : Array (Option Value)}
    {f7 : Addr} {oc7 kV7 dc7 pm7 cd7 ct7 : Value} {od7 an7 : Option Addr} {sl7 : Array (Option Value)}
    {f8 : Addr} {oc8 kV8 dc8 pm8 cd8 ct8 : Value} {od8 an8 : Option Addr} {sl8 : Array (Option Value)}
    {f9 : Addr} {oc9 kV9 dc9 pm9 cd9 ct9 : Value} {od9 an9 : Option Addr} {sl9 : Array (Option Value)}
    {f10 : Addr} {oc10 kV10 dc10 pm10 cd10 ct10 : Value} {od10 an10 : Option Addr} {sl10 : Array (Option Value)}
    {f11 : Addr} {oc11 kV11 dc11 pm11 cd11 ct11 : Value} {od11 an11 : Option Addr} {sl11 : Array (Option Value)}
    {f12 : Addr} {oc12 kV12 dc12 pm12 cd12 ct12 : Value} {od12 an12 : Option Addr} {sl12 : Array (Option Value)}
    {f13 : Addr} {oc13 kV13 dc13 pm13 cd13 ct13 : Value} {od13 an13 : Option Addr} {sl13 : Array (Option Value)}
    {f14 : Addr} {oc14 kV14 dc14 pm14 cd14 ct14 : Value} {od14 an14 : Option Addr} {sl14 : Array (Option Value)}
    {f15 : Addr} {oc15 kV15 dc15 pm15 cd15 ct15 : Value} {od15 an15 : Option Addr} {sl15 : Array (Option Value)}
    {f16 : Addr} {oc16 kV16 dc16 pm16 cd16 ct16 : Value} {od16 an16 : Option Addr} {sl16 : Array (Option Value)}
    {f17 : Addr} {oc17 kV17 dc17 pm17 cd17 ct17 : Value} {od17 an17 : Option Addr} {sl17 : Array (Option Value)}
    {f18 : Addr} {oc18 kV18 dc18 pm18 cd18 ct18 : Value} {od18 an18 : Option Addr} {sl18 : Array (Option Value)}
    {f19 : Addr} {oc19 kV19 dc19 pm19 cd19 ct19 : Value} {od19 an19 : Option Addr} {sl19 : Array (Option Value)}
    {f20 : Addr} {oc20 kV20 dc20 pm20 cd20 ct20 : Value} {od20 an20 : Option Addr} {sl20 : Array (Option Value)}
    {f21 : Addr} {oc21 kV21 dc21 pm21 cd21 ct21 : Value} {od21 an21 : Option Addr} {sl21 : Array (Option Value)}
    {ct_0 : Tok}
    {ct_1 : Tok}
    {ct_2 : Tok}
    {ca3 : Addr} {es3 : Array DictEntry} {cn3 : Nat}
    {ca4 : Addr} {its4 : Array Value} {cn4 : Nat} {csl4 : Array (Option Value)}
    {ct_5 : Tok}
    {ct_6 : Tok}
    {ct_7 : Tok}
    {ct_8 : Tok}
    {Ci cda cc : Addr} {params : Arguments} {odI anI : Option Addr} {oslI ccsI cslI : Array (Option Value)} {ocI dVI kVI docI pmI ctI cclI clI : Value} {cddI cldI : Option Addr} {qI : Str} {p0 p1 p2 p3 p4 p5 p6 p7 p8 p9 : Pos} {ar : Arg} {vsI : Array Value} {file : Str} {tf : Tok} {cdD : ClassData}
    {C0 N0 : Addr} {nm0 q0 : Str} {bs0 bm0 : List Value} {sn0 : List Str} {su0 : List Value} {ab0 : Bool} {col0 : Option Bool} {dd0 : Option Addr} {m00 m10 m20 m30 m50 : Option Value}
    {C1 N1 : Addr} {nm1 q1 : Str} {bs1 bm1 : List Value} {sn1 : List Str} {su1 : List Value} {ab1 : Bool} {col1 : Option Bool} {dd1 : Option Addr} {m01 m11 m21 m31 m51 : Option Value}
    {C2 N2 : Addr} {nm2 q2 : Str} {bs2 bm2 : List Value} {sn2 : List Str} {su2 : List Value} {ab2 : Bool} {col2 : Option Bool} {dd2 : Option Addr} {m02 m12 m22 m32 m52 : Option Value}
    {C3 N3 : Addr} {nm3 q3 : Str} {bs3 bm3 : List Value} {sn3 : List Str} {su3 : List Value} {ab3 : Bool} {col3 : Option Bool} {dd3 : Option Addr} {m03 m13 m23 m33 m53 : Option Value}
    (n_len : PySem.W.nsIn K mainGlobals "len" = some none)
    (n_abs : PySem.W.nsIn K mainGlobals "abs" = some none)
    (n_min : PySem.W.nsIn K mainGlobals "min" = some none)
    (n_max : PySem.W.nsIn K mainGlobals "max" = some none)
    (n_int : PySem.W.nsIn K mainGlobals "int" = some none)
    (n_str : PySem.W.nsIn K mainGlobals "str" = some none)
    (n_sum : PySem.W.nsIn K mainGlobals "sum" = some none)
    (n_all : PySem.W.nsIn K mainGlobals "all" = some none)
    (n_any : PySem.W.nsIn K mainGlobals "any" = some none)
    (n_sorted : PySem.W.nsIn K mainGlobals "sorted" = some none)
    (n_list : PySem.W.nsIn K mainGlobals "list" = some none)
    (n_tuple : PySem.W.nsIn K mainGlobals "tuple" = some none)
    (n_dict : PySem.W.nsIn K mainGlobals "dict" = some none)
    (n_isTup : PySem.W.nsIn K mainGlobals "isinstance" = some none)
    (n_range : PySem.W.nsIn K mainGlobals "range" = some none)
    (n_enumerate : PySem.W.nsIn K mainGlobals "enumerate" = some none)
    (n_zip : PySem.W.nsIn K mainGlobals "zip" = some none)
    (n_super : PySem.W.nsIn K mainGlobals "super" = some none)
    (a0 : PySem.W.nsIn K mainGlobals d_bound_of.x = some (some (.ref f0)))
    (l0 : K.lookup f0 = some ⟨oc0, od0, .func (PySem.W.fnOf d_bound_of.x d_bound_of.qual (defArgs d_bound_of.st) (defBody d_bound_of.st) (defScope d_bound_of.st) .none kV0 dc0 pm0 an0 cd0 ct0), sl0⟩)
    (c0 : PySem.W.codeIn K cd0 d_bound_of.qual = true)
    (k0 : PySem.W.keepIn K (.ref f0) = true)
    (a1 : PySem.W.nsIn K mainGlobals d_is_instruction.x = some (some (.ref f1)))
    (l1 : K.lookup f1 = some ⟨oc1, od1, .func (PySem.W.fnOf d_is_instruction.x d_is_instruction.qual (defArgs d_is_instruction.st) (defBody d_is_instruction.st) (defScope d_is_instruction.st) .none kV1 dc1 pm1 an1 cd1 ct1), sl1⟩)
    (c1 : PySem.W.codeIn K cd1 d_is_instruction.qual = true)
    (k1 : PySem.W.keepIn K (.ref f1) = true)
    (a2 : PySem.W.nsIn K mainGlobals d_check_program.x = some (some (.ref f2)))
    (l2 : K.lookup f2 = some ⟨oc2, od2, .func (PySem.W.fnOf d_check_program.x d_check_program.qual (defArgs d_check_program.st) (defBody d_check_program.st) (defScope d_check_program.st) .none kV2 dc2 pm2 an2 cd2 ct2), sl2⟩)
    (c2 : PySem.W.codeIn K cd2 d_check_program.qual = true)
    (k2 : PySem.W.keepIn K (.ref f2) = true)
    (a3 : PySem.W.nsIn K mainGlobals d_written.x = some (some (.ref f3)))
    (l3 : K.lookup f3 = some ⟨oc3, od3, .func (PySem.W.fnOf d_written.x d_written.qual (defArgs d_written.st) (defBody d_written.st) (defScope d_written.st) .none kV3 dc3 pm3 an3 cd3 ct3), sl3⟩)
    (c3 : PySem.W.codeIn K cd3 d_written.qual = true)
    (k3 : PySem.W.keepIn K (.ref f3) = true)
    (a4 : PySem.W.nsIn K mainGlobals d_guess_of.x = some (some (.ref f4)))
    (l4 : K.lookup f4 = some ⟨oc4, od4, .func (PySem.W.fnOf d_guess_of.x d_guess_of.qual (defArgs d_guess_of.st) (defBody d_guess_of.st) (defScope d_guess_of.st) .none kV4 dc4 pm4 an4 cd4 ct4), sl4⟩)
    (c4 : PySem.W.codeIn K cd4 d_guess_of.qual = true)
    (k4 : PySem.W.keepIn K (.ref f4) = true)
    (a5 : PySem.W.nsIn K mainGlobals d_instruction_of.x = some (some (.ref f5)))
    (l5 : K.lookup f5 = some ⟨oc5, od5, .func (PySem.W.fnOf d_instruction_of.x d_instruction_of.qual (defArgs d_instruction_of.st) (defBody d_instruction_of.st) (defScope d_instruction_of.st) .none kV5 dc5 pm5 an5 cd5 ct5), sl5⟩)
    (c5 : PySem.W.codeIn K cd5 d_instruction_of.qual = true)
    (k5 : PySem.W.keepIn K (.ref f5) = true)
    (a6 : PySem.W.nsIn K mainGlobals d_image.x = some (some (.ref f6)))
    (l6 : K.lookup f6 = some ⟨oc6, od6, .func (PySem.W.fnOf d_image.x d_image.qual (defArgs d_image.st) (defBody d_image.st) (defScope d_image.st) .none kV6 dc6 pm6 an6 cd6 ct6), sl6⟩)
    (c6 : PySem.W.codeIn K cd6 d_image.qual = true)
    (k6 : PySem.W.keepIn K (.ref f6) = true)
    (a7 : PySem.W.nsIn K mainGlobals d_code_in.x = some (some (.ref f7)))
    (l7 : K.lookup f7 = some ⟨oc7, od7, .func (PySem.W.fnOf d_code_in.x d_code_in.qual (defArgs d_code_in.st) (defBody d_code_in.st) (defScope d_code_in.st) .none kV7 dc7 pm7 an7 cd7 ct7), sl7⟩)
    (c7 : PySem.W.codeIn K cd7 d_code_in.qual = true)
    (k7 : PySem.W.keepIn K (.ref f7) = true)
    (a8 : PySem.W.nsIn K mainGlobals d_data_in.x = some (some (.ref f8)))
    (l8 : K.lookup f8 = some ⟨oc8, od8, .func (PySem.W.fnOf d_data_in.x d_data_in.qual (defArgs d_data_in.st) (defBody d_data_in.st) (defScope d_data_in.st) .none kV8 dc8 pm8 an8 cd8 ct8), sl8⟩)
    (c8 : PySem.W.codeIn K cd8 d_data_in.qual = true)
    (k8 : PySem.W.keepIn K (.ref f8) = true)
    (a9 : PySem.W.nsIn K mainGlobals d_count_at.x = some (some (.ref f9)))
    (l9 : K.lookup f9 = some ⟨oc9, od9, .func (PySem.W.fnOf d_count_at.x d_count_at.qual (defArgs d_count_at.st) (defBody d_count_at.st) (defScope d_count_at.st) .none kV9 dc9 pm9 an9 cd9 ct9), sl9⟩)
    (c9 : PySem.W.codeIn K cd9 d_count_at.qual = true)
    (k9 : PySem.W.keepIn K (.ref f9) = true)
    (a10 : PySem.W.nsIn K mainGlobals d_read_image.x = some (some (.ref f10)))
    (l10 : K.lookup f10 = some ⟨oc10, od10, .func (PySem.W.fnOf d_read_image.x d_read_image.qual (defArgs d_read_image.st) (defBody d_read_image.st) (defScope d_read_image.st) .none kV10 dc10 pm10 an10 cd10 ct10), sl10⟩)
    (c10 : PySem.W.codeIn K cd10 d_read_image.qual = true)
    (k10 : PySem.W.keepIn K (.ref f10) = true)
    (a11 : PySem.W.nsIn K mainGlobals d__law_draws.x = some (some (.ref f11)))
    (l11 : K.lookup f11 = some ⟨oc11, od11, .func (PySem.W.fnOf d__law_draws.x d__law_draws.qual (defArgs d__law_draws.st) (defBody d__law_draws.st) (defScope d__law_draws.st) .none kV11 dc11 pm11 an11 cd11 ct11), sl11⟩)
    (c11 : PySem.W.codeIn K cd11 d__law_draws.qual = true)
    (k11 : PySem.W.keepIn K (.ref f11) = true)
    (a12 : PySem.W.nsIn K mainGlobals d__law_mix.x = some (some (.ref f12)))
    (l12 : K.lookup f12 = some ⟨oc12, od12, .func (PySem.W.fnOf d__law_mix.x d__law_mix.qual (defArgs d__law_mix.st) (defBody d__law_mix.st) (defScope d__law_mix.st) .none kV12 dc12 pm12 an12 cd12 ct12), sl12⟩)
    (c12 : PySem.W.codeIn K cd12 d__law_mix.qual = true)
    (k12 : PySem.W.keepIn K (.ref f12) = true)
    (a13 : PySem.W.nsIn K mainGlobals d__law_shapes.x = some (some (.ref f13)))
    (l13 : K.lookup f13 = some ⟨oc13, od13, .func (PySem.W.fnOf d__law_shapes.x d__law_shapes.qual (defArgs d__law_shapes.st) (defBody d__law_shapes.st) (defScope d__law_shapes.st) .none kV13 dc13 pm13 an13 cd13 ct13), sl13⟩)
    (c13 : PySem.W.codeIn K cd13 d__law_shapes.qual = true)
    (k13 : PySem.W.keepIn K (.ref f13) = true)
    (a14 : PySem.W.nsIn K mainGlobals d__law_written.x = some (some (.ref f14)))
    (l14 : K.lookup f14 = some ⟨oc14, od14, .func (PySem.W.fnOf d__law_written.x d__law_written.qual (defArgs d__law_written.st) (defBody d__law_written.st) (defScope d__law_written.st) .none kV14 dc14 pm14 an14 cd14 ct14), sl14⟩)
    (c14 : PySem.W.codeIn K cd14 d__law_written.qual = true)
    (k14 : PySem.W.keepIn K (.ref f14) = true)
    (a15 : PySem.W.nsIn K mainGlobals d__law_one.x = some (some (.ref f15)))
    (l15 : K.lookup f15 = some ⟨oc15, od15, .func (PySem.W.fnOf d__law_one.x d__law_one.qual (defArgs d__law_one.st) (defBody d__law_one.st) (defScope d__law_one.st) .none kV15 dc15 pm15 an15 cd15 ct15), sl15⟩)
    (c15 : PySem.W.codeIn K cd15 d__law_one.qual = true)
    (k15 : PySem.W.keepIn K (.ref f15) = true)
    (a16 : PySem.W.nsIn K mainGlobals d__law_read.x = some (some (.ref f16)))
    (l16 : K.lookup f16 = some ⟨oc16, od16, .func (PySem.W.fnOf d__law_read.x d__law_read.qual (defArgs d__law_read.st) (defBody d__law_read.st) (defScope d__law_read.st) .none kV16 dc16 pm16 an16 cd16 ct16), sl16⟩)
    (c16 : PySem.W.codeIn K cd16 d__law_read.qual = true)
    (k16 : PySem.W.keepIn K (.ref f16) = true)
    (a17 : PySem.W.nsIn K mainGlobals d__law_told.x = some (some (.ref f17)))
    (l17 : K.lookup f17 = some ⟨oc17, od17, .func (PySem.W.fnOf d__law_told.x d__law_told.qual (defArgs d__law_told.st) (defBody d__law_told.st) (defScope d__law_told.st) .none kV17 dc17 pm17 an17 cd17 ct17), sl17⟩)
    (c17 : PySem.W.codeIn K cd17 d__law_told.qual = true)
    (k17 : PySem.W.keepIn K (.ref f17) = true)
    (a18 : PySem.W.nsIn K mainGlobals d__law_code.x = some (some (.ref f18)))
    (l18 : K.lookup f18 = some ⟨oc18, od18, .func (PySem.W.fnOf d__law_code.x d__law_code.qual (defArgs d__law_code.st) (defBody d__law_code.st) (defScope d__law_code.st) .none kV18 dc18 pm18 an18 cd18 ct18), sl18⟩)
    (c18 : PySem.W.codeIn K cd18 d__law_code.qual = true)
    (k18 : PySem.W.keepIn K (.ref f18) = true)
    (a19 : PySem.W.nsIn K mainGlobals d__law_summed.x = some (some (.ref f19)))
    (l19 : K.lookup f19 = some ⟨oc19, od19, .func (PySem.W.fnOf d__law_summed.x d__law_summed.qual (defArgs d__law_summed.st) (defBody d__law_summed.st) (defScope d__law_summed.st) .none kV19 dc19 pm19 an19 cd19 ct19), sl19⟩)
    (c19 : PySem.W.codeIn K cd19 d__law_summed.qual = true)
    (k19 : PySem.W.keepIn K (.ref f19) = true)
    (a20 : PySem.W.nsIn K mainGlobals d__law_refused.x = some (some (.ref f20)))
    (l20 : K.lookup f20 = some ⟨oc20, od20, .func (PySem.W.fnOf d__law_refused.x d__law_refused.qual (defArgs d__law_refused.st) (defBody d__law_refused.st) (defScope d__law_refused.st) .none kV20 dc20 pm20 an20 cd20 ct20), sl20⟩)
    (c20 : PySem.W.codeIn K cd20 d__law_refused.qual = true)
    (k20 : PySem.W.keepIn K (.ref f20) = true)
    (a21 : PySem.W.nsIn K mainGlobals d_law.x = some (some (.ref f21)))
    (l21 : K.lookup f21 = some ⟨oc21, od21, .func (PySem.W.fnOf d_law.x d_law.qual (defArgs d_law.st) (defBody d_law.st) (defScope d_law.st) .none kV21 dc21 pm21 an21 cd21 ct21), sl21⟩)
    (c21 : PySem.W.codeIn K cd21 d_law.qual = true)
    (k21 : PySem.W.keepIn K (.ref f21) = true)
    (v0 : PySem.W.nsIn K mainGlobals "REGISTERS" = some (some (.int 8 ct_0)))
    (v1 : PySem.W.nsIn K mainGlobals "WORDS" = some (some (.int 65536 ct_1)))
    (v2 : PySem.W.nsIn K mainGlobals "CELLS" = some (some (.int 64 ct_2)))
    (v3 : PySem.W.nsIn K mainGlobals "SHAPES" = some (some (.ref ca3)))
    (vl3 : K.lookup ca3 = some ⟨.type "dict", none, .dict es3 cn3, #[]⟩)
    (vk3 : PySem.W.KeysLit w.params es3.toList)
    (vo3 : (ca3 == sysModules) = false)
    (vq3 : pairsOf es3.toList = some ([("li", "dn"), ("add", "daa"), ("sub", "daa"), ("and", "daa"), ("or", "daa"), ("xor", "daa"), ("mul", "daa"), ("slt", "daa"), ("addi", "dan"), ("ld", "dan"), ("st", "aan"), ("beq", "aat"), ("bne", "aat"), ("blt", "aat"), ("jmp", "t"), ("jal", "dt"), ("jr", "a"), ("fence", ""), ("swap", "daa"), ("ll", "da"), ("sc", "daa"), ("out", "a"), ("halt", ""), ("nop", "")] : List (Str × Str)))
    (v4 : PySem.W.nsIn K mainGlobals "SORTS" = some (some (.ref ca4)))
    (vl4 : K.lookup ca4 = some ⟨.type "tuple", none, .seq its4 cn4, csl4⟩)
    (vq4 : strsOf its4.toList = some (["nop", "halt", "fence", "li", "add", "sub", "and", "or", "xor", "mul", "slt", "addi", "ld", "st", "beq", "bne", "blt", "jmp", "jal", "jr", "swap", "ll", "sc", "out"] : List Str))
    (vs4 : its4.size ≤ sizeLine)
    (v5 : PySem.W.nsIn K mainGlobals "WHOLE" = some (some (.int 4294967296 ct_5)))
    (v6 : PySem.W.nsIn K mainGlobals "HIGH" = some (some (.int 134217728 ct_6)))
    (v7 : PySem.W.nsIn K mainGlobals "EIGHTH" = some (some (.int 8 ct_7)))
    (v8 : PySem.W.nsIn K mainGlobals "MARK" = some (some (.int 23588 ct_8)))
    (xa0 : PySem.W.nsIn K mainGlobals "MachineError" = some (some (.ref C0)))
    (xL0 : K.lookup C0 = some (excClassObj nm0 q0 C0 N0 bs0 bm0 true sn0 su0 ab0 col0 dd0 m00 m10 m20 m30 m50 "ValueError.__new__"))
    (xr0 : PySem.HandSPX.refsVE bm0 = true)
    (xs0 : PySem.W.findIn K (.ref C0) "__setattr__" = some (some (.builtin "object.__setattr__")))
    (xe0 : PySem.W.subIn K (.ref C0) (.type "BaseException") = some true)
    (xt0 : PySem.W.typeIn K (.ref C0) = some (.type "type"))
    (xk0 : PySem.W.keepIn K (.ref C0) = true)
    (xn0 : PySem.W.findIn K (.ref C0) atS = some none)
    (xu0 : PySem.W.ks_superIn K C0 C0 "__init__" = some (some (.builtin "ValueError.__init__")))
    (xd0 : PySem.W.mroIn K C0 (.ref C0) = some true)
    (xv0 : PySem.W.mroIn K C0 (.type "ValueError") = some true)
    (xi0 : PySem.W.findIn K (.ref C0) "__init__" = some (some (.ref Ci)))
    (xg0 : PySem.W.findIn K (.ref C0) "__getattribute__" = some (some (.builtin "BaseException.__getattribute__")))
    (xh0 : PySem.W.findIn K (.ref C0) "__getattr__" = some none)
    (xf0 : PySem.W.hasDictIn K C0 = true)
    (xa1 : PySem.W.nsIn K mainGlobals "BadCode" = some (some (.ref C1)))
    (xL1 : K.lookup C1 = some (excClassObj nm1 q1 C1 N1 bs1 bm1 true sn1 su1 ab1 col1 dd1 m01 m11 m21 m31 m51 "ValueError.__new__"))
    (xr1 : PySem.HandSPX.refsVE bm1 = true)
    (xs1 : PySem.W.findIn K (.ref C1) "__setattr__" = some (some (.builtin "object.__setattr__")))
    (xe1 : PySem.W.subIn K (.ref C1) (.type "BaseException") = some true)
    (xt1 : PySem.W.typeIn K (.ref C1) = some (.type "type"))
    (xk1 : PySem.W.keepIn K (.ref C1) = true)
    (xn1 : PySem.W.findIn K (.ref C1) atS = some none)
    (xu1 : PySem.W.ks_superIn K C1 C0 "__init__" = some (some (.builtin "ValueError.__init__")))
    (xd1 : PySem.W.mroIn K C1 (.ref C0) = some true)
    (xv1 : PySem.W.mroIn K C1 (.type "ValueError") = some true)
    (xi1 : PySem.W.findIn K (.ref C1) "__init__" = some (some (.ref Ci)))
    (xg1 : PySem.W.findIn K (.ref C1) "__getattribute__" = some (some (.builtin "BaseException.__getattribute__")))
    (xh1 : PySem.W.findIn K (.ref C1) "__getattr__" = some none)
    (xf1 : PySem.W.hasDictIn K C1 = true)
    (xa2 : PySem.W.nsIn K mainGlobals "BadData" = some (some (.ref C2)))
    (xL2 : K.lookup C2 = some (excClassObj nm2 q2 C2 N2 bs2 bm2 true sn2 su2 ab2 col2 dd2 m02 m12 m22 m32 m52 "ValueError.__new__"))
    (xr2 : PySem.HandSPX.refsVE bm2 = true)
    (xs2 : PySem.W.findIn K (.ref C2) "__setattr__" = some (some (.builtin "object.__setattr__")))
    (xe2 : PySem.W.subIn K (.ref C2) (.type "BaseException") = some true)
    (xt2 : PySem.W.typeIn K (.ref C2) = some (.type "type"))
    (xk2 : PySem.W.keepIn K (.ref C2) = true)
    (xn2 : PySem.W.findIn K (.ref C2) atS = some none)
    (xu2 : PySem.W.ks_superIn K C2 C0 "__init__" = some (some (.builtin "ValueError.__init__")))
    (xd2 : PySem.W.mroIn K C2 (.ref C0) = some true)
    (xv2 : PySem.W.mroIn K C2 (.type "ValueError") = some true)
    (xi2 : PySem.W.findIn K (.ref C2) "__init__" = some (some (.ref Ci)))
    (xg2 : PySem.W.findIn K (.ref C2) "__getattribute__" = some (some (.builtin "BaseException.__getattribute__")))
    (xh2 : PySem.W.findIn K (.ref C2) "__getattr__" = some none)
    (xf2 : PySem.W.hasDictIn K C2 = true)
    (xa3 : PySem.W.nsIn K mainGlobals "BadImage" = some (some (.ref C3)))
    (xL3 : K.lookup C3 = some (excClassObj nm3 q3 C3 N3 bs3 bm3 true sn3 su3 ab3 col3 dd3 m03 m13 m23 m33 m53 "ValueError.__new__"))
    (xr3 : PySem.HandSPX.refsVE bm3 = true)
    (xs3 : PySem.W.findIn K (.ref C3) "__setattr__" = some (some (.builtin "object.__setattr__")))
    (xe3 : PySem.W.subIn K (.ref C3) (.type "BaseException") = some true)
    (xt3 : PySem.W.typeIn K (.ref C3) = some (.type "type"))
    (xk3 : PySem.W.keepIn K (.ref C3) = true)
    (xn3 : PySem.W.findIn K (.ref C3) atS = some none)
    (xu3 : PySem.W.ks_superIn K C3 C0 "__init__" = some (some (.builtin "ValueError.__init__")))
    (xd3 : PySem.W.mroIn K C3 (.ref C0) = some true)
    (xv3 : PySem.W.mroIn K C3 (.type "ValueError") = some true)
    (xi3 : PySem.W.findIn K (.ref C3) "__init__" = some (some (.ref Ci)))
    (xg3 : PySem.W.findIn K (.ref C3) "__getattribute__" = some (some (.builtin "BaseException.__getattribute__")))
    (xh3 : PySem.W.findIn K (.ref C3) "__getattr__" = some none)
    (xf3 : PySem.W.hasDictIn K C3 = true)
    (e0 : PySem.W.subIn K (.ref C1) (.ref C1) = some true)
    (e1 : PySem.W.subIn K (.ref C1) (.ref C2) = some false)
    (e2 : PySem.W.subIn K (.ref C1) (.ref C3) = some false)
    (e3 : PySem.W.subIn K (.ref C1) (.ref C0) = some true)
    (e4 : PySem.W.subIn K (.ref C2) (.ref C1) = some false)
    (e5 : PySem.W.subIn K (.ref C2) (.ref C2) = some true)
    (e6 : PySem.W.subIn K (.ref C2) (.ref C3) = some false)
    (e7 : PySem.W.subIn K (.ref C2) (.ref C0) = some true)
    (e8 : PySem.W.subIn K (.ref C3) (.ref C1) = some false)
    (e9 : PySem.W.subIn K (.ref C3) (.ref C2) = some false)
    (e10 : PySem.W.subIn K (.ref C3) (.ref C3) = some true)
    (e11 : PySem.W.subIn K (.ref C3) (.ref C0) = some true)
    (lk : K.lookup Ci = some ⟨ocI, odI, .func (PySem.W.ksFn "__init__" qI params (iniBody p0 p1 p2 p3 p4 p5 p6 p7 p8 p9) iniScope dVI kVI docI pmI anI (.ref cda) ctI cc), oslI⟩)
    (tI : PySem.W.typeIn K (.ref Ci) = some (.type "function"))
    (hline : (p2.endLine == p4.line) = true)
    (hp : (params.posonlyargs ++ params.args).head? = some ar)
    (har : ar.arg = "self")
    (hcd : PySem.W.codeIn K (.ref cda) qI = true)
    (hcode : K.lookup cda = some ⟨cclI, cddI, .fields vsI, ccsI⟩)
    (hvs : vsI[2]? = some (.str file tf))
    (hfile : ((l.prog.main.file : Str) == file) = true)
    (hcell : K.lookup cc = some ⟨clI, cldI, .cell (some (.ref C0)), cslI⟩)
    (hD : PySem.W.clsIn K C0 = some cdD)
    (htop : (l.prog.main.scope.names.lookup ("super" : Str)).isSome = false)
    (hst : PySem.W.nsIn K cStatics "thirdparty.any" = some none)
    (hbI : Binds K (PySem.W.ksFn "__init__" qI params (iniBody p0 p1 p2 p3 p4 p5 p6 p7 p8 p9) iniScope dVI kVI docI pmI anI (.ref cda) ctI cc) Ev.iniP [])
    : ∃ fd : FuncData, (∀ (s : Shared) (u : Value), BindsTo s fd ⟨[u], []⟩ [("script", u)]) ∧ ∀ base : Heap, K.In base → base.Ns mainGlobals mg → FnOk l.prog w K mg base (L2.CX l.prog w) m fa fd ["script"] (spLaw K fun ns => ns.length ≤ 63) := by
  subst hk
  have ea := hfa.symm.trans (PySem.W.mg_of X G a21)
  cases ea
  have b0 : BindC d_bound_of := fun _ _ _ _ _ _ us hl => match us, hl with | [_, _], _ => rfl
  have g0 := fact_of X G d_bound_of b0 a0 l0 c0 k0
  have b1 : BindC d_is_instruction := fun _ _ _ _ _ _ us hl => match us, hl with | [_, _], _ => rfl
  have g1 := fact_of X G d_is_instruction b1 a1 l1 c1 k1
  have b2 : BindC d_check_program := fun _ _ _ _ _ _ us hl => match us, hl with | [_], _ => rfl
  have g2 := fact_of X G d_check_program b2 a2 l2 c2 k2
  have b3 : BindC d_written := fun _ _ _ _ _ _ us hl => match us, hl with | [_], _ => rfl
  have g3 := fact_of X G d_written b3 a3 l3 c3 k3
  have b4 : BindC d_guess_of := fun _ _ _ _ _ _ us hl => match us, hl with | [_], _ => rfl
  have g4 := fact_of X G d_guess_of b4 a4 l4 c4 k4
  have b5 : BindC d_instruction_of := fun _ _ _ _ _ _ us hl => match us, hl with | [_, _], _ => rfl
  have g5 := fact_of X G d_instruction_of b5 a5 l5 c5 k5
  have b6 : BindC d_image := fun _ _ _ _ _ _ us hl => match us, hl with | [_, _], _ => rfl
  have g6 := fact_of X G d_image b6 a6 l6 c6 k6
  have b7 : BindC d_code_in := fun _ _ _ _ _ _ us hl => match us, hl with | [_, _], _ => rfl
  have g7 := fact_of X G d_code_in b7 a7 l7 c7 k7
  have b8 : BindC d_data_in := fun _ _ _ _ _ _ us hl => match us, hl with | [_, _, _], _ => rfl
  have g8 := fact_of X G d_data_in b8 a8 l8 c8 k8
  have b9 : BindC d_count_at := fun _ _ _ _ _ _ us hl => match us, hl with | [_, _, _], _ => rfl
  have g9 := fact_of X G d_count_at b9 a9 l9 c9 k9
  have b10 : BindC d_read_image := fun _ _ _ _ _ _ us hl => match us, hl with | [_], _ => rfl
  have g10 := fact_of X G d_read_image b10 a10 l10 c10 k10
  have b11 : BindC d__law_draws := fun _ _ _ _ _ _ us hl => match us, hl with | [_], _ => rfl
  have g11 := fact_of X G d__law_draws b11 a11 l11 c11 k11
  have b12 : BindC d__law_mix := fun _ _ _ _ _ _ us hl => match us, hl with | [_, _, _], _ => rfl
  have g12 := fact_of X G d__law_mix b12 a12 l12 c12 k12
  have b13 : BindC d__law_shapes := fun _ _ _ _ _ _ us hl => match us, hl with | [], _ => rfl
  have g13 := fact_of X G d__law_shapes b13 a13 l13 c13 k13
  have b14 : BindC d__law_written := fun _ _ _ _ _ _ us hl => match us, hl with | [_], _ => rfl
  have g14 := fact_of X G d__law_written b14 a14 l14 c14 k14
  have b15 : BindC d__law_one := fun _ _ _ _ _ _ us hl => match us, hl with | [_, _], _ => rfl
  have g15 := fact_of X G d__law_one b15 a15 l15 c15 k15
  have b16 : BindC d__law_read := fun _ _ _ _ _ _ us hl => match us, hl with | [_], _ => rfl
  have g16 := fact_of X G d__law_read b16 a16 l16 c16 k16
  have b17 : BindC d__law_told := fun _ _ _ _ _ _ us hl => match us, hl with | [_], _ => rfl
  have g17 := fact_of X G d__law_told b17 a17 l17 c17 k17
  have b18 : BindC d__law_code := fun _ _ _ _ _ _ us hl => match us, hl with | [_, _, _], _ => rfl
  have g18 := fact_of X G d__law_code b18 a18 l18 c18 k18
  have b19 : BindC d__law_summed := fun _ _ _ _ _ _ us hl => match us, hl with | [_], _ => rfl
  have g19 := fact_of X G d__law_summed b19 a19 l19 c19 k19
  have b20 : BindC d__law_refused := fun _ _ _ _ _ _ us hl => match us, hl with | [_, _], _ => rfl
  have g20 := fact_of X G d__law_refused b20 a20 l20 c20 k20
  have b21 : BindC d_law := fun _ _ _ _ _ _ us hl => match us, hl with | [_], _ => rfl
  have g21 := fact_of X G d_law b21 a21 l21 c21 k21
  have w0 : CstOk K w mg "REGISTERS" (Cc 0) := cst_int X G v0
  have w1 : CstOk K w mg "WORDS" (Cc 1) := cst_int X G v1
  have w2 : CstOk K w mg "CELLS" (Cc 2) := cst_int X G v2
  have w3 : CstOk K w mg "SHAPES" (Cc 3) := cst_dic X G _ v3 vl3 vk3 vo3 vq3 rfl
  have w4 : CstOk K w mg "SORTS" (Cc 4) := cst_tup X G _ v4 vl4 vq4 vs4
  have w5 : CstOk K w mg "WHOLE" (Cc 5) := cst_int X G v5
  have w6 : CstOk K w mg "HIGH" (Cc 6) := cst_int X G v6
  have w7 : CstOk K w mg "EIGHTH" (Cc 7) := cst_int X G v7
  have w8 : CstOk K w mg "MARK" (Cc 8) := cst_int X G v8
  have z0 : ClsOk K mg C0 Ci "MachineError" C0 := cls_of X G "MachineError" xa0 xL0 xr0 xs0 xe0 xt0 xk0 xn0 xu0 xd0 xv0 xi0 xg0 xh0 xf0
  have z1 : ClsOk K mg C0 Ci "BadCode" C1 := cls_of X G "BadCode" xa1 xL1 xr1 xs1 xe1 xt1 xk1 xn1 xu1 xd1 xv1 xi1 xg1 xh1 xf1
  have z2 : ClsOk K mg C0 Ci "BadData" C2 := cls_of X G "BadData" xa2 xL2 xr2 xs2 xe2 xt2 xk2 xn2 xu2 xd2 xv2 xi2 xg2 xh2 xf2
  have z3 : ClsOk K mg C0 Ci "BadImage" C3 := cls_of X G "BadImage" xa3 xL3 xr3 xs3 xe3 xt3 xk3 xn3 xu3 xd3 xv3 xi3 xg3 xh3 xf3
  obtain ⟨y0, m0, kk0, fd0, F0, B0⟩ := g0
  obtain ⟨y1, m1, kk1, fd1, F1, B1⟩ := g1
  obtain ⟨y2, m2, kk2, fd2, F2, B2⟩ := g2
  obtain ⟨y3, m3, kk3, fd3, F3, B3⟩ := g3
  obtain ⟨y4, m4, kk4, fd4, F4, B4⟩ := g4
  obtain ⟨y5, m5, kk5, fd5, F5, B5⟩ := g5
  obtain ⟨y6, m6, kk6, fd6, F6, B6⟩ := g6
  obtain ⟨y7, m7, kk7, fd7, F7, B7⟩ := g7
  obtain ⟨y8, m8, kk8, fd8, F8, B8⟩ := g8
  obtain ⟨y9, m9, kk9, fd9, F9, B9⟩ := g9
  obtain ⟨y10, m10, kk10, fd10, F10, B10⟩ := g10
  obtain ⟨y11, m11, kk11, fd11, F11, B11⟩ := g11
  obtain ⟨y12, m12, kk12, fd12, F12, B12⟩ := g12
  obtain ⟨y13, m13, kk13, fd13, F13, B13⟩ := g13
  obtain ⟨y14, m14, kk14, fd14, F14, B14⟩ := g14
  obtain ⟨y15, m15, kk15, fd15, F15, B15⟩ := g15
  obtain ⟨y16, m16, kk16, fd16, F16, B16⟩ := g16
  obtain ⟨y17, m17, kk17, fd17, F17, B17⟩ := g17
  obtain ⟨y18, m18, kk18, fd18, F18, B18⟩ := g18
  obtain ⟨y19, m19, kk19, fd19, F19, B19⟩ := g19
  obtain ⟨y20, m20, kk20, fd20, F20, B20⟩ := g20
  obtain ⟨y21, m21, kk21, fd21, F21, B21⟩ := g21
  have fs : ∀ n, ∃ a, mg (fn n) = some (.ref a) ∧ PySem.W.keepIn K (.ref a) = true ∧ ∀ g, df n = some g → ∃ fd, Fun K g.x g.qual g.st a fd ∧ Binds K fd g.ps [] := fun n => match n with
    | 0 => ⟨y0, m0, kk0, fun g e => by cases e; exact ⟨fd0, F0, B0⟩⟩
    | 1 => ⟨y1, m1, kk1, fun g e => by cases e; exact ⟨fd1, F1, B1⟩⟩
    | 2 => ⟨y2, m2, kk2, fun g e => by cases e; exact ⟨fd2, F2, B2⟩⟩
    | 3 => ⟨y3, m3, kk3, fun g e => by cases e; exact ⟨fd3, F3, B3⟩⟩
    | 4 => ⟨y4, m4, kk4, fun g e => by cases e; exact ⟨fd4, F4, B4⟩⟩
    | 5 => ⟨y5, m5, kk5, fun g e => by cases e; exact ⟨fd5, F5, B5⟩⟩
    | 6 => ⟨y6, m6, kk6, fun g e => by cases e; exact ⟨fd6, F6, B6⟩⟩
    | 7 => ⟨y7, m7, kk7, fun g e => by cases e; exact ⟨fd7, F7, B7⟩⟩
    | 8 => ⟨y8, m8, kk8, fun g e => by cases e; exact ⟨fd8, F8, B8⟩⟩
    | 9 => ⟨y9, m9, kk9, fun g e => by cases e; exact ⟨fd9, F9, B9⟩⟩
    | 10 => ⟨y10, m10, kk10, fun g e => by cases e; exact ⟨fd10, F10, B10⟩⟩
    | 11 => ⟨y11, m11, kk11, fun g e => by cases e; exact ⟨fd11, F11, B11⟩⟩
    | 12 => ⟨y12, m12, kk12, fun g e => by cases e; exact ⟨fd12, F12, B12⟩⟩
    | 13 => ⟨y13, m13, kk13, fun g e => by cases e; exact ⟨fd13, F13, B13⟩⟩
    | 14 => ⟨y14, m14, kk14, fun g e => by cases e; exact ⟨fd14, F14, B14⟩⟩
    | 15 => ⟨y15, m15, kk15, fun g e => by cases e; exact ⟨fd15, F15, B15⟩⟩
    | 16 => ⟨y16, m16, kk16, fun g e => by cases e; exact ⟨fd16, F16, B16⟩⟩
    | 17 => ⟨y17, m17, kk17, fun g e => by cases e; exact ⟨fd17, F17, B17⟩⟩
    | 18 => ⟨y18, m18, kk18, fun g e => by cases e; exact ⟨fd18, F18, B18⟩⟩
    | 19 => ⟨y19, m19, kk19, fun g e => by cases e; exact ⟨fd19, F19, B19⟩⟩
    | 20 => ⟨y20, m20, kk20, fun g e => by cases e; exact ⟨fd20, F20, B20⟩⟩
    | 21 => ⟨y21, m21, kk21, fun g e => by cases e; exact ⟨fd21, F21, B21⟩⟩
    | n + 22 => ⟨y21, m21, kk21, fun g e => by cases e⟩
  have cs : ∀ n, CstOk K w mg (cn n) (Cc n) := fun n => match n with
    | 0 => w0
    | 1 => w1
    | 2 => w2
    | 3 => w3
    | 4 => w4
    | 5 => w5
    | 6 => w6
    | 7 => w7
    | 8 => w8
    | n + 9 => w0
  have cl : ∀ c, xn c = true → (c == ("__debug__" : Str)) = false ∧ ∃ Cq, ClsOk K mg C0 Ci c Cq := ClsAll.at ((.cons (by decide +kernel) z0 (.cons (by decide +kernel) z1 (.cons (by decide +kernel) z2 (.cons (by decide +kernel) z3 .nil)))))
  have ex := ex_of (tab := tab) ((.cons (by exact z1.m) (by exact z1.m) (ex_ref xe1 xf1 xt1 e0) (.cons (by exact z1.m) (by exact z2.m) (ex_ref xe2 xf2 xt2 e1) (.cons (by exact z1.m) (by exact z3.m) (ex_ref xe3 xf3 xt3 e2) (.cons (by exact z1.m) (by exact z0.m) (ex_ref xe0 xf0 xt0 e3) (.cons (by exact z2.m) (by exact z1.m) (ex_ref xe1 xf1 xt1 e4) (.cons (by exact z2.m) (by exact z2.m) (ex_ref xe2 xf2 xt2 e5) (.cons (by exact z2.m) (by exact z3.m) (ex_ref xe3 xf3 xt3 e6) (.cons (by exact z2.m) (by exact z0.m) (ex_ref xe0 xf0 xt0 e7) (.cons (by exact z3.m) (by exact z1.m) (ex_ref xe1 xf1 xt1 e8) (.cons (by exact z3.m) (by exact z2.m) (ex_ref xe2 xf2 xt2 e9) (.cons (by exact z3.m) (by exact z3.m) (ex_ref xe3 xf3 xt3 e10) (.cons (by exact z3.m) (by exact z0.m) (ex_ref xe0 xf0 xt0 e11) .nil)))))))))))))
  have bn : ∀ b : Blt, mg b.nm = none := fun b => by
    cases b
    · exact mg_none X G n_len
    · exact mg_none X G n_abs
    · exact mg_none X G n_min
    · exact mg_none X G n_max
    · exact mg_none X G n_int
    · exact mg_none X G n_str
    · exact mg_none X G n_sum
    · exact mg_none X G n_all
    · exact mg_none X G n_any
    · exact mg_none X G n_sorted
    · exact mg_none X G n_list
    · exact mg_none X G n_tuple
    · exact mg_none X G n_dict
    · exact mg_none X G n_isTup
  refine ⟨_, fun s v => ?_, fun base _ _ => law_ok (md_of (D := C0) (fI := Ci) bn (mg_none X G n_range) (mg_none X G n_enumerate) (mg_none X G n_zip) cs cl xs_of ex tI hbI (fn_ini lk hline hp har hcd hcode hvs hfile hcell hD (mg_none X G n_super) htop hst)) (stat_of s_law) (fun_mk l21 c21 k21) df_ok fs hg⟩
  exact .of_eq rfl
end Ev.K51
open PySem PySem.W PyProof.Rows
set_option maxRecDepth 100000 in
set_option maxHeartbeats 0 in
theorem PySem.Challenge.cw_coresagree_k51_whole_images_changed_at_e_holds : PySem.Challenge.rw_coresagree_k51_whole_images_changed_at_e.Holds := by
  w_on; o_law; k_head; (case hw => w_witness2)
  k_fill
  refine Ev.walk (l := PySem.Challenge.rw_coresagree_k51_whole_images_changed_at_e) (n := 63) (k := Ev.K51.lawDepth + 5) rfl (by decide) rfl ⟨by decide, by decide, by decide⟩ (fun w h Y => PySem.W.kIn_of Y) ?F
  case F =>
    intro w mg fa h KX G hmg
    refine' Ev.K51.all_mk (l := PySem.Challenge.rw_coresagree_k51_whole_images_changed_at_e) rfl Ev.K51.law_true KX G hmg ?n_len ?n_abs ?n_min ?n_max ?n_int ?n_str ?n_sum ?n_all ?n_any ?n_sorted ?n_list ?n_tuple ?n_dict ?n_isTup ?n_range ?n_enumerate ?n_zip ?n_super ?a0 ?l0 ?c0 ?k0 ?a1 ?l1 ?c1 ?k1 ?a2 ?l2 ?c2 ?k2 ?a3 ?l3 ?c3 ?k3 ?a4 ?l4 ?c4 ?k4 ?a5 ?l5 ?c5 ?k5 ?a6 ?l6 ?c6 ?k6 ?a7 ?l7 ?c7 ?k7 ?a8 ?l8 ?c8 ?k8 ?a9 ?l9 ?c9 ?k9 ?a10 ?l10 ?c10 ?k10 ?a11 ?l11 ?c11 ?k11 ?a12 ?l12 ?c12 ?k12 ?a13 ?l13 ?c13 ?k13 ?a14 ?l14 ?c14 ?k14 ?a15 ?l15 ?c15 ?k15 ?a16 ?l16 ?c16 ?k16 ?a17 ?l17 ?c17 ?k17 ?a18 ?l18 ?c18 ?k18 ?a19 ?l19 ?c19 ?k19 ?a20 ?l20 ?c20 ?k20 ?a21 ?l21 ?c21 ?k21 ?v0 ?v1 ?v2 ?v3 ?vl3 ?vk3 ?vo3 ?vq3 ?v4 ?vl4 ?vq4 ?vs4 ?v5 ?v6 ?v7 ?v8 ?xa0 ?xL0 ?xr0 ?xs0 ?xe0 ?xt0 ?xk0 ?xn0 ?xu0 ?xd0 ?xv0 ?xi0 ?xg0 ?xh0 ?xf0 ?xa1 ?xL1 ?xr1 ?xs1 ?xe1 ?xt1 ?xk1 ?xn1 ?xu1 ?xd1 ?xv1 ?xi1 ?xg1 ?xh1 ?xf1 ?xa2 ?xL2 ?xr2 ?xs2 ?xe2 ?xt2 ?xk2 ?xn2 ?xu2 ?xd2 ?xv2 ?xi2 ?xg2 ?xh2 ?xf2 ?xa3 ?xL3 ?xr3 ?xs3 ?xe3 ?xt3 ?xk3 ?xn3 ?xu3 ?xd3 ?xv3 ?xi3 ?xg3 ?xh3 ?xf3 ?e0 ?e1 ?e2 ?e3 ?e4 ?e5 ?e6 ?e7 ?e8 ?e9 ?e10 ?e11 ?lk ?tI ?hline ?hp ?har ?hcd ?hcode ?hvs ?hfile ?hcell ?hD ?htop ?hst ?hbI
    (case n_len => k_is)
    (case n_abs => k_is)
    (case n_min => k_is)
    (case n_max => k_is)
    (case n_int => k_is)
    (case n_str => k_is)
    (case n_sum => k_is)
    (case n_all => k_is)
    (case n_any => k_is)
    (case n_sorted => k_is)
    (case n_list => k_is)
    (case n_tuple => k_is)
    (case n_dict => k_is)
    (case n_isTup => k_is)
    (case n_range => k_is)
    (case n_enumerate => k_is)
    (case n_zip => k_is)
    (case n_super => k_is)
    (case a0 => k_is)
    (case l0 => k_is)
    (case c0 => k_is)
    (case k0 => k_is)
    (case a1 => k_is)
    (case l1 => k_is)
    (case c1 => k_is)
    (case k1 => k_is)
    (case a2 => k_is)
    (case l2 => k_is)
    (case c2 => k_is)
    (case k2 => k_is)
    (case a3 => k_is)
    (case l3 => k_is)
    (case c3 => k_is)
    (case k3 => k_is)
    (case a4 => k_is)
    (case l4 => k_is)
    (case c4 => k_is)
    (case k4 => k_is)
    (case a5 => k_is)
    (case l5 => k_is)
    (case c5 => k_is)
    (case k5 => k_is)
    (case a6 => k_is)
    (case l6 => k_is)
    (case c6 => k_is)
    (case k6 => k_is)
    (case a7 => k_is)
    (case l7 => k_is)
    (case c7 => k_is)
    (case k7 => k_is)
    (case a8 => k_is)
    (case l8 => k_is)
    (case c8 => k_is)
    (case k8 => k_is)
    (case a9 => k_is)
    (case l9 => k_is)
    (case c9 => k_is)
    (case k9 => k_is)
    (case a10 => k_is)
    (case l10 => k_is)
    (case c10 => k_is)
    (case k10 => k_is)
    (case a11 => k_is)
    (case l11 => k_is)
    (case c11 => k_is)
    (case k11 => k_is)
    (case a12 => k_is)
    (case l12 => k_is)
    (case c12 => k_is)
    (case k12 => k_is)
    (case a13 => k_is)
    (case l13 => k_is)
    (case c13 => k_is)
    (case k13 => k_is)
    (case a14 => k_is)
    (case l14 => k_is)
    (case c14 => k_is)
    (case k14 => k_is)
    (case a15 => k_is)
    (case l15 => k_is)
    (case c15 => k_is)
    (case k15 => k_is)
    (case a16 => k_is)
    (case l16 => k_is)
    (case c16 => k_is)
    (case k16 => k_is)
    (case a17 => k_is)
    (case l17 => k_is)
    (case c17 => k_is)
    (case k17 => k_is)
    (case a18 => k_is)
    (case l18 => k_is)
    (case c18 => k_is)
    (case k18 => k_is)
    (case a19 => k_is)
    (case l19 => k_is)
    (case c19 => k_is)
    (case k19 => k_is)
    (case a20 => k_is)
    (case l20 => k_is)
    (case c20 => k_is)
    (case k20 => k_is)
    (case a21 => k_is)
    (case l21 => k_is)
    (case c21 => k_is)
    (case k21 => k_is)
    (case v0 => k_is)
    (case v1 => k_is)
    (case v2 => k_is)
    (case v3 => k_is)
    (case vl3 => k_is)
    (case vk3 => k_keys)
    (case vo3 => rfl)
    (case vq3 => rfl)
    (case v4 => k_is)
    (case vl4 => k_is)
    (case vq4 => rfl)
    (case vs4 => decide)
    (case v5 => k_is)
    (case v6 => k_is)
    (case v7 => k_is)
    (case v8 => k_is)
    (case xa0 => k_is)
    (case xL0 => k_is)
    (case xr0 => decide +kernel)
    (case xs0 => k_is)
    (case xe0 => k_is)
    (case xt0 => k_is)
    (case xk0 => k_is)
    (case xn0 => k_is)
    (case xu0 => ks_is)
    (case xd0 => k_is)
    (case xv0 => k_is)
    (case xi0 => k_is)
    (case xg0 => k_is)
    (case xh0 => k_is)
    (case xf0 => k_is)
    (case xa1 => k_is)
    (case xL1 => k_is)
    (case xr1 => decide +kernel)
    (case xs1 => k_is)
    (case xe1 => k_is)
    (case xt1 => k_is)
    (case xk1 => k_is)
    (case xn1 => k_is)
    (case xu1 => ks_is)
    (case xd1 => k_is)
    (case xv1 => k_is)
    (case xi1 => k_is)
    (case xg1 => k_is)
    (case xh1 => k_is)
    (case xf1 => k_is)
    (case xa2 => k_is)
    (case xL2 => k_is)
    (case xr2 => decide +kernel)
    (case xs2 => k_is)
    (case xe2 => k_is)
    (case xt2 => k_is)
    (case xk2 => k_is)
    (case xn2 => k_is)
    (case xu2 => ks_is)
    (case xd2 => k_is)
    (case xv2 => k_is)
    (case xi2 => k_is)
    (case xg2 => k_is)
    (case xh2 => k_is)
    (case xf2 => k_is)
    (case xa3 => k_is)
    (case xL3 => k_is)
    (case xr3 => decide +kernel)
    (case xs3 => k_is)
    (case xe3 => k_is)
    (case xt3 => k_is)
    (case xk3 => k_is)
    (case xn3 => k_is)
    (case xu3 => ks_is)
    (case xd3 => k_is)
    (case xv3 => k_is)
    (case xi3 => k_is)
    (case xg3 => k_is)
    (case xh3 => k_is)
    (case xf3 => k_is)
    (case e0 => first | k_is | rfl)
    (case e1 => first | k_is | rfl)
    (case e2 => first | k_is | rfl)
    (case e3 => first | k_is | rfl)
    (case e4 => first | k_is | rfl)
    (case e5 => first | k_is | rfl)
    (case e6 => first | k_is | rfl)
    (case e7 => first | k_is | rfl)
    (case e8 => first | k_is | rfl)
    (case e9 => first | k_is | rfl)
    (case e10 => first | k_is | rfl)
    (case e11 => first | k_is | rfl)
    (case lk => k_is)
    (case tI => k_is)
    (case hline => rfl)
    (case hp => rfl)
    (case har => rfl)
    (case hcd => k_is)
    (case hcode => k_is)
    (case hvs => rfl)
    (case hfile => decide +kernel)
    (case hcell => k_is)
    (case hD => k_is)
    (case htop => decide +kernel)
    (case hst => k_is)
    (case hbI => exact L2.Binds.all fun us hl => match us, hl with | [_, _], _ => rfl)
