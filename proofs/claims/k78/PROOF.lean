import PyProof.Rows.All
import Wide.All
import OpenK.AllK
import Wide.FinOn
import HandS.ForMost
import HandS.Walk
import HandS.Zip
import HandS.Wide
import HandS.Style
import HandS.TupAny
import HandS.Gcd
import HandS.Deep
import HandS.Flow
import KE.SortData
import KE.DataCmp
import KE.DataMinMax
import HandS.IsInst
import HandS.Conv
import HandS.SetKeys
import HandS.Small
import HandS.Iter
import HandS.Rev
import KE.GoesMore
import KE.GoesEnum
import KE.KDictCopyH
import HandS.Codes
import HandS.Strs
import HandS.TupSets
import HandS.BoundDict
import KE.KDictPairs
import HandS.SetFor
import HandS.Defaults
import KE.KTupSum
import PySem.Challenge.RW_touchrings_k78_skip_plans_done
import KE.BitLaws
set_option Elab.async false
set_option linter.all false
set_option maxRecDepth 100000
set_option maxHeartbeats 4000000
/-! Mi1: values as trees, live cells, results; how they lie in HandS's abstract heap. -/
namespace Mi
open PySem PySem.Spec PyProof.Rows L2

/-- a value: immutable data as trees; a live (mutable) object as a cell's number -/
inductive D where
  | non | bl (b : Bool) | int (i : Int) | str (x : Str)
  | tup (xs : List D) | lst (xs : List D) | scr (xs : List D)
  | dK (ks : List Key) (xs : List D) | dT (ks : List (List Key)) (xs : List D)
  | ref (n : Nat)
abbrev Cells := List (Bool × D)
/-- a def's slots, and how many cells there were when it began -/
structure Loc where
  base : Nat
  v : List (Option D)
structure Ex where
  cls : Str
  fs : List (Str × D)
inductive Res (α : Type) where
  | ok (a : α) (h : Cells)
  | exc (x : Ex) (h : Cells)
  | stuck
def Res.bind {α β : Type} (r : Res α) (k : α → Cells → Res β) : Res β := match r with
  | .ok a h => k a h
  | .exc x h => .exc x h
  | .stuck => .stuck
@[simp] theorem Res.bind_ok {α β : Type} (a : α) (h : Cells) (k : α → Cells → Res β) : (Res.ok a h).bind k = k a h := rfl
@[simp] theorem Res.bind_exc {α β : Type} (x : Ex) (h : Cells) (k : α → Cells → Res β) : (Res.exc x h : Res α).bind k = .exc x h := rfl
@[simp] theorem Res.bind_stuck {α β : Type} (k : α → Cells → Res β) : (Res.stuck : Res α).bind k = .stuck := rfl
abbrev ME := Loc → Cells → Res D
abbrev MT := Loc → Cells → Res Bool
abbrev MA := Loc → Cells → Res (List D)
inductive Fl where
  | nx (m : Loc) | rt (d : D) | bk (m : Loc) | ct (m : Loc)
abbrev MS := Loc → Cells → Res Fl
abbrev Fn := List D → Cells → Res D

/-! no reference from n on -/
mutual
def refsLt (n : Nat) : D → Bool
  | .ref k => decide (k < n)
  | .tup xs => refsLts n xs
  | .lst xs => refsLts n xs
  | .scr xs => refsLts n xs
  | .dK _ xs => refsLts n xs
  | .dT _ xs => refsLts n xs
  | _ => true
def refsLts (n : Nat) : List D → Bool
  | [] => true
  | x :: r => refsLt n x && refsLts n r
end

/-! ### how it lies in the abstract heap -/
/-- where the cells are; what is under way and known to nobody -/
structure Rm where
  c : List Addr
  u : List Addr
  /-- how many cells there were when each running def began -/
  b : List Nat
def Rm.push (r : Rm) (p : Addr) : Rm := ⟨r.c ++ [p], r.u, r.b⟩
def Rm.cut (r : Rm) (n : Nat) : Rm := ⟨r.c.take n, r.u, r.b⟩
def Rm.hide (r : Rm) (p : Addr) : Rm := ⟨r.c, p :: r.u, r.b⟩
def Rm.enter (r : Rm) (n : Nat) : Rm := ⟨r.c, r.u, n :: r.b⟩
def Rm.leave (r : Rm) : Rm := ⟨r.c, r.u, r.b.tail⟩
def LiveC (r : Rm) (h : Cells) (a : Addr) : Prop := ∃ (n : Nat) (d : D), r.c[n]? = some a ∧ h[n]? = some (true, d)
def LiveA (r : Rm) (h : Cells) (a : Addr) : Prop := LiveC r h a ∨ a ∈ r.u
/-- a list that is read and never written -/
def SqX (K : PySem.W.Frag) (r : Rm) (h : Cells) (H : Hp) (a : Addr) (vs : List V) : Prop :=
  (∃ (o : Obj) (its : Array Value) (n : Nat), K.lookup a = some o ∧ o.cls = .type "list" ∧ o.dict = none ∧ o.data = .seq its n ∧ its.size ≤ sizeLine ∧ Vals vs its.toList) ∨
  (∃ o, H a = some (.frz o (.lst vs)) ∧ ¬ LiveA r h a) ∨ (H a = some (.lst vs) ∧ ¬ LiveA r h a)
section
variable (K : PySem.W.Frag) (r : Rm) (h : Cells) (H : Hp)
mutual
def RV : D → V → Prop
  | .non, v => v = .non
  | .bl b, v => v = .bl b
  | .int i, v => v = .int i
  | .str x, v => v = .str x
  | .tup xs, v => ∃ a vs, v = .ref a ∧ H a = some (.tup vs) ∧ RVs xs vs
  | .scr xs, v => ∃ a vs, v = .ref a ∧ SqX K r h H a vs ∧ RVs xs vs
  | .lst xs, v => ∃ a vs, v = .ref a ∧ ¬ LiveA r h a ∧ H a = some (.lst vs) ∧ RVs xs vs
  | .dK ks xs, v => ∃ a vs, v = .ref a ∧ ¬ LiveA r h a ∧ ks.length = xs.length ∧ Rd H a (.dK (ks.zip vs)) ∧ RVs xs vs
  | .dT ks xs, v => ∃ a vs, v = .ref a ∧ ¬ LiveA r h a ∧ ks.length = xs.length ∧ Rd H a (.dT (ks.zip vs)) ∧ RVs xs vs
  | .ref n, v => ∃ a, v = .ref a ∧ r.c[n]? = some a
def RVs : List D → List V → Prop
  | [], vs => vs = []
  | d :: ds, vs => ∃ v w, vs = v :: w ∧ RV d v ∧ RVs ds w
end
/-- a cell's content -/
def CV (b : Bool) (d : D) (a : Addr) : Prop := match d with
  | .lst xs => ∃ vs, H a = some (.lst vs) ∧ RVs K r h H xs vs
  | .dK ks xs => ∃ vs, (b = true → H a = some (.dK (ks.zip vs))) ∧ ks.length = xs.length ∧ Rd H a (.dK (ks.zip vs)) ∧ RVs K r h H xs vs
  | .dT ks xs => ∃ vs, (b = true → H a = some (.dT (ks.zip vs))) ∧ ks.length = xs.length ∧ Rd H a (.dT (ks.zip vs)) ∧ RVs K r h H xs vs
  | _ => False
structure HRel : Prop where
  len : r.c.length = h.length
  nd : r.c.Nodup
  un : ∀ a ∈ r.u, (∃ o, H a = some o ∧ ∀ vs, o ≠ .tup vs) ∧ a ∉ r.c
  bb : ∀ q ∈ r.b, q ≤ h.length
  cell : ∀ n b d, h[n]? = some (b, d) → (∀ q ∈ r.b, n < q → refsLt q d = true) ∧ ∃ a, r.c[n]? = some a ∧ CV K r h H b d a
def LRel (m : Loc) (σ : L2.St) : Prop := m.v.length = σ.length ∧ ∀ (i : Nat) d, m.v[i]? = some (some d) → ∃ v, σ[i]? = some (some v) ∧ RV K r h H d v
structure Rel (m : Loc) (σ : L2.St) : Prop where
  hr : HRel K r h H
  lr : LRel K r h H m σ
  hb : r.b.head? = some m.base
  hm : ∀ q ∈ r.b, q ≤ m.base
end
structure Post0 (r : Rm) (h : Cells) (H : Hp) (r' : Rm) (h' : Cells) (H' : Hp) : Prop where
  pre : ∃ s, r'.c = r.c ++ s
  kL : ∀ a vs, H a = some (.lst vs) → ¬ LiveA r h a → H' a = some (.lst vs) ∧ ¬ LiveA r' h' a
  kT : ∀ a vs, H a = some (.tup vs) → H' a = some (.tup vs)
  kF : ∀ a o u, H a = some (.frz o u) → ¬ LiveA r h a → H' a = some (.frz o u) ∧ ¬ LiveA r' h' a
  kK : ∀ a vs, H a = some (.dK vs) → ¬ LiveA r h a → Rd H' a (.dK vs) ∧ ¬ LiveA r' h' a
  kD : ∀ a vs, H a = some (.dT vs) → ¬ LiveA r h a → Rd H' a (.dT vs) ∧ ¬ LiveA r' h' a
/-- what is under way stays as it is -/
structure Post (r : Rm) (h : Cells) (H : Hp) (r' : Rm) (h' : Cells) (H' : Hp) : Prop where
  p0 : Post0 r h H r' h' H'
  us : r'.u = r.u
  bs : r'.b = r.b
  kU : ∀ a ∈ r.u, H' a = H a
section
variable {K : PySem.W.Frag} {r r1 r2 : Rm} {h h1 h2 : Cells} {H H1 H2 : Hp}
theorem Post0.refl : Post0 r h H r h H := ⟨⟨[], by simp⟩, fun _ _ a b => ⟨a, b⟩, fun _ _ a => a, fun _ _ _ a b => ⟨a, b⟩, fun _ _ a b => ⟨.inl a, b⟩, fun _ _ a b => ⟨.inl a, b⟩⟩
theorem Post0.trans (p : Post0 r h H r1 h1 H1) (q : Post0 r1 h1 H1 r2 h2 H2) : Post0 r h H r2 h2 H2 := by
  obtain ⟨s, e⟩ := p.pre
  obtain ⟨s', e'⟩ := q.pre
  refine ⟨⟨s ++ s', by rw [e', e, List.append_assoc]⟩, fun a vs x y => ?_, fun a vs x => q.kT a vs (p.kT a vs x), fun a o vs x y => q.kF a o vs (p.kF a o vs x y).1 (p.kF a o vs x y).2, fun a vs x y => ?_, fun a vs x y => ?_⟩
  · exact q.kL a vs (p.kL a vs x y).1 (p.kL a vs x y).2
  · obtain ⟨e1 | ⟨o, e1⟩, e2⟩ := p.kK a vs x y
    · exact q.kK a vs e1 e2
    · exact ⟨.inr ⟨o, (q.kF _ _ _ e1 e2).1⟩, (q.kF _ _ _ e1 e2).2⟩
  · obtain ⟨e1 | ⟨o, e1⟩, e2⟩ := p.kD a vs x y
    · exact q.kD a vs e1 e2
    · exact ⟨.inr ⟨o, (q.kF _ _ _ e1 e2).1⟩, (q.kF _ _ _ e1 e2).2⟩
theorem Post0.get (p : Post0 r h H r1 h1 H1) {n : Nat} {a : Addr} (e : r.c[n]? = some a) : r1.c[n]? = some a := by
  obtain ⟨s, e'⟩ := p.pre
  rw [e', List.getElem?_append_left (List.getElem?_eq_some_iff.mp e).1]; exact e
theorem SqX.post (p : Post0 r h H r1 h1 H1) {a : Addr} {vs : List V} (x : SqX K r h H a vs) : SqX K r1 h1 H1 a vs := by
  rcases x with x | ⟨o, x, l⟩ | ⟨x, l⟩
  · exact .inl x
  · exact .inr (.inl ⟨o, p.kF _ _ _ x l⟩)
  · exact .inr (.inr (p.kL _ _ x l))
theorem SqX.sq {a : Addr} {vs : List V} (x : SqX K r h H a vs) : SqL K H a vs := by
  rcases x with x | ⟨o, x, _⟩ | ⟨x, l⟩
  · exact .inr x
  · exact .inl (.inr ⟨o, x⟩)
  · exact .inl (.inl x)
theorem Post0.rK (p : Post0 r h H r1 h1 H1) {a : Addr} {vs : List (Key × V)} (e : Rd H a (.dK vs)) (l : ¬ LiveA r h a) : Rd H1 a (.dK vs) ∧ ¬ LiveA r1 h1 a := by
  rcases e with e | ⟨o, e⟩
  · exact p.kK _ _ e l
  · exact ⟨.inr ⟨o, (p.kF _ _ _ e l).1⟩, (p.kF _ _ _ e l).2⟩
theorem Post0.rD (p : Post0 r h H r1 h1 H1) {a : Addr} {vs : List (List Key × V)} (e : Rd H a (.dT vs)) (l : ¬ LiveA r h a) : Rd H1 a (.dT vs) ∧ ¬ LiveA r1 h1 a := by
  rcases e with e | ⟨o, e⟩
  · exact p.kD _ _ e l
  · exact ⟨.inr ⟨o, (p.kF _ _ _ e l).1⟩, (p.kF _ _ _ e l).2⟩
mutual
theorem RV.post (p : Post0 r h H r1 h1 H1) : ∀ {d : D} {v : V}, RV K r h H d v → RV K r1 h1 H1 d v
  | .non, _, x => by simpa only [RV] using x
  | .bl _, _, x => by simpa only [RV] using x
  | .int _, _, x => by simpa only [RV] using x
  | .str _, _, x => by simpa only [RV] using x
  | .tup xs, _, x => by
    simp only [RV] at x ⊢
    obtain ⟨a, vs, e, t, y⟩ := x
    exact ⟨a, vs, e, p.kT _ _ t, RVs.post p y⟩
  | .scr xs, _, x => by
    simp only [RV] at x ⊢
    obtain ⟨a, vs, e, t, y⟩ := x
    exact ⟨a, vs, e, SqX.post p t, RVs.post p y⟩
  | .lst xs, _, x => by
    simp only [RV] at x ⊢
    obtain ⟨a, vs, e, l, t, y⟩ := x
    exact ⟨a, vs, e, (p.kL _ _ t l).2, (p.kL _ _ t l).1, RVs.post p y⟩
  | .dK ks xs, _, x => by
    simp only [RV] at x ⊢
    obtain ⟨a, vs, e, l, z, t, y⟩ := x
    exact ⟨a, vs, e, (p.rK t l).2, z, (p.rK t l).1, RVs.post p y⟩
  | .dT ks xs, _, x => by
    simp only [RV] at x ⊢
    obtain ⟨a, vs, e, l, z, t, y⟩ := x
    exact ⟨a, vs, e, (p.rD t l).2, z, (p.rD t l).1, RVs.post p y⟩
  | .ref n, _, x => by
    simp only [RV] at x ⊢
    obtain ⟨a, e, y⟩ := x
    exact ⟨a, e, p.get y⟩
theorem RVs.post (p : Post0 r h H r1 h1 H1) : ∀ {ds : List D} {vs : List V}, RVs K r h H ds vs → RVs K r1 h1 H1 ds vs
  | [], _, x => by simpa only [RVs] using x
  | d :: ds, _, x => by
    simp only [RVs] at x ⊢
    obtain ⟨v, w, e, y, z⟩ := x
    exact ⟨v, w, e, RV.post p y, RVs.post p z⟩
end
theorem Post.refl : Post r h H r h H := ⟨.refl, rfl, rfl, fun _ _ => rfl⟩
theorem Post.trans (p : Post r h H r1 h1 H1) (q : Post r1 h1 H1 r2 h2 H2) : Post r h H r2 h2 H2 := ⟨p.p0.trans q.p0, q.us.trans p.us, q.bs.trans p.bs, fun a ha => (q.kU a (by rw [p.us]; exact ha)).trans (p.kU a ha)⟩
theorem RVs.nil : RVs K r h H [] [] := by simp only [RVs]
theorem RVs.cons {d : D} {ds : List D} {v : V} {vs : List V} (x : RV K r h H d v) (y : RVs K r h H ds vs) : RVs K r h H (d :: ds) (v :: vs) := by
  simp only [RVs]; exact ⟨v, vs, rfl, x, y⟩
theorem RVs.of_nil {vs : List V} (x : RVs K r h H [] vs) : vs = [] := by simpa only [RVs] using x
theorem RVs.of_cons {d : D} {ds : List D} {vs : List V} (x : RVs K r h H (d :: ds) vs) : ∃ v w, vs = v :: w ∧ RV K r h H d v ∧ RVs K r h H ds w := by simpa only [RVs] using x
theorem RVs.length : ∀ {ds : List D} {vs : List V}, RVs K r h H ds vs → ds.length = vs.length
  | [], _, x => by rw [x.of_nil]; rfl
  | d :: ds, _, x => by
    obtain ⟨v, w, rfl, _, y⟩ := x.of_cons
    simp only [List.length_cons, y.length]
theorem RVs.get : ∀ {ds : List D} {vs : List V} {i : Nat} {d : D}, RVs K r h H ds vs → ds[i]? = some d → ∃ v, vs[i]? = some v ∧ RV K r h H d v
  | [], _, _, _, _, e => by simp at e
  | d :: ds, _, 0, _, x, e => by
    obtain ⟨v, w, rfl, y, _⟩ := x.of_cons
    simp at e; subst e; exact ⟨v, rfl, y⟩
  | d :: ds, _, i + 1, _, x, e => by
    obtain ⟨v, w, rfl, _, y⟩ := x.of_cons
    exact RVs.get (i := i) y (by simpa using e)
theorem RVs.append : ∀ {ds es : List D} {vs ws : List V}, RVs K r h H ds vs → RVs K r h H es ws → RVs K r h H (ds ++ es) (vs ++ ws)
  | [], _, _, _, x, y => by rw [x.of_nil]; exact y
  | d :: ds, _, _, _, x, y => by
    obtain ⟨v, w, rfl, a, b⟩ := x.of_cons
    exact RVs.cons a (RVs.append b y)
theorem RVs.set {e : D} {u : V} (q : RV K r h H e u) : ∀ {ds : List D} {vs : List V} (i : Nat), RVs K r h H ds vs → RVs K r h H (ds.set i e) (vs.set i u)
  | [], _, i, x => by rw [x.of_nil]; exact RVs.nil
  | d :: ds, _, 0, x => by
    obtain ⟨v, w, rfl, _, b⟩ := x.of_cons
    exact RVs.cons q b
  | d :: ds, _, i + 1, x => by
    obtain ⟨v, w, rfl, a, b⟩ := x.of_cons
    exact RVs.cons a (RVs.set q i b)
theorem RVs.drop : ∀ {ds : List D} {vs : List V} (n : Nat), RVs K r h H ds vs → RVs K r h H (ds.drop n) (vs.drop n)
  | _, _, 0, x => x
  | [], _, n + 1, x => by rw [x.of_nil]; exact RVs.nil
  | d :: ds, _, n + 1, x => by
    obtain ⟨v, w, rfl, _, b⟩ := x.of_cons
    exact RVs.drop n b
theorem RVs.take : ∀ {ds : List D} {vs : List V} (n : Nat), RVs K r h H ds vs → RVs K r h H (ds.take n) (vs.take n)
  | _, _, 0, x => by simp only [List.take_zero]; exact RVs.nil
  | [], _, n + 1, x => by rw [x.of_nil]; exact RVs.nil
  | d :: ds, _, n + 1, x => by
    obtain ⟨v, w, rfl, a, b⟩ := x.of_cons
    exact RVs.cons a (RVs.take n b)
theorem RVs.reverse : ∀ {ds : List D} {vs : List V}, RVs K r h H ds vs → RVs K r h H ds.reverse vs.reverse
  | [], _, x => by rw [x.of_nil]; exact RVs.nil
  | d :: ds, _, x => by
    obtain ⟨v, w, rfl, a, b⟩ := x.of_cons
    rw [List.reverse_cons, List.reverse_cons]
    exact RVs.append (RVs.reverse b) (RVs.cons a RVs.nil)
theorem RVs.eraseIdx : ∀ {ds : List D} {vs : List V} (i : Nat), RVs K r h H ds vs → RVs K r h H (ds.eraseIdx i) (vs.eraseIdx i)
  | [], _, i, x => by rw [x.of_nil]; exact RVs.nil
  | d :: ds, _, 0, x => by
    obtain ⟨v, w, rfl, _, b⟩ := x.of_cons
    exact b
  | d :: ds, _, i + 1, x => by
    obtain ⟨v, w, rfl, a, b⟩ := x.of_cons
    exact RVs.cons a (RVs.eraseIdx i b)
theorem RVs.dropLast {ds : List D} {vs : List V} (x : RVs K r h H ds vs) : RVs K r h H ds.dropLast vs.dropLast := by
  rw [List.dropLast_eq_take, List.dropLast_eq_take, x.length]; exact x.take _
theorem LRel.post {m : Loc} {σ : L2.St} (p : Post0 r h H r1 h1 H1) (x : LRel K r h H m σ) : LRel K r1 h1 H1 m σ :=
  ⟨x.1, fun i d e => let ⟨v, a, b⟩ := x.2 i d e; ⟨v, a, b.post p⟩⟩
theorem Rel.post {m : Loc} {σ : L2.St} (x : Rel K r h H m σ) (p : Post r h H r1 h1 H1) (y : HRel K r1 h1 H1) : Rel K r1 h1 H1 m σ := ⟨y, x.lr.post p.p0, by rw [p.bs]; exact x.hb, by rw [p.bs]; exact x.hm⟩

/-! ### what changes -/
theorem CV.at {b : Bool} {d : D} {a : Addr} (c : CV K r h H b d a) : ∃ o, H a = some o ∧ (b = true → (∃ vs, o = .lst vs) ∨ (∃ vs, o = .dK vs) ∨ ∃ vs, o = .dT vs) := by
  cases d with
  | lst xs => obtain ⟨vs, e, _⟩ := c; exact ⟨_, e, fun _ => .inl ⟨_, rfl⟩⟩
  | dK ks xs =>
    obtain ⟨vs, e, _, z, _⟩ := c
    cases b with
    | true => exact ⟨_, e rfl, fun _ => .inr (.inl ⟨_, rfl⟩)⟩
    | false => rcases z with z | ⟨_, z⟩ <;> exact ⟨_, z, fun t => by cases t⟩
  | dT ks xs =>
    obtain ⟨vs, e, _, z, _⟩ := c
    cases b with
    | true => exact ⟨_, e rfl, fun _ => .inr (.inr ⟨_, rfl⟩)⟩
    | false => rcases z with z | ⟨_, z⟩ <;> exact ⟨_, z, fun t => by cases t⟩
  | _ => exact c.elim
theorem HRel.live (x : HRel K r h H) {a : Addr} (l : LiveA r h a) : ∃ o, H a = some o ∧ ∀ vs, o ≠ .tup vs := by
  rcases l with ⟨n, d, e1, e2⟩ | l
  · obtain ⟨_, b, e3, c⟩ := x.cell n true d e2
    rw [e1] at e3; cases e3
    obtain ⟨o, e, q⟩ := c.at
    refine ⟨o, e, fun vs z => ?_⟩
    rcases q rfl with ⟨_, w⟩ | ⟨_, w⟩ | ⟨_, w⟩ <;> rw [z] at w <;> cases w
  · exact (x.un a l).1
theorem HRel.liveC (x : HRel K r h H) {a : Addr} (l : LiveC r h a) : ∃ o, H a = some o ∧ ((∃ vs, o = .lst vs) ∨ (∃ vs, o = .dK vs) ∨ ∃ vs, o = .dT vs) := by
  obtain ⟨n, d, e1, e2⟩ := l
  obtain ⟨_, b, e3, c⟩ := x.cell n true d e2
  rw [e1] at e3; cases e3
  obtain ⟨o, e, q⟩ := c.at
  exact ⟨o, e, q rfl⟩
theorem rd_upd {H : Hp} {p a : Addr} {o u : HO} (hp : H p = none) (x : Rd H a u) : Rd (upd H p o) a u := by
  rcases x with x | ⟨ob, x⟩
  · exact .inl (by rw [upd_ne (ne_of_none x hp)]; exact x)
  · exact .inr ⟨ob, by rw [upd_ne (ne_of_none x hp)]; exact x⟩
theorem up_new {H : Hp} {p : Addr} {o : HO} (hp : H p = none) {a : Addr} {u : HO} (e : H a = some u) : upd H p o a = some u := by rw [upd_ne (ne_of_none e hp)]; exact e
/-- a new object, frozen or of no account -/
theorem Post.new (x : HRel K r h H) {p : Addr} {o : HO} (hp : H p = none) : Post r h H r h (upd H p o) :=
  ⟨⟨⟨[], by simp⟩, fun a vs e l => ⟨up_new hp e, l⟩, fun a vs e => up_new hp e, fun a o u e l => ⟨up_new hp e, l⟩, fun a vs e l => ⟨.inl (up_new hp e), l⟩, fun a vs e l => ⟨.inl (up_new hp e), l⟩⟩,
    rfl, rfl, fun a ha => by obtain ⟨⟨u, e, _⟩, _⟩ := x.un a ha; rw [up_new hp e, e]⟩
theorem CV.post {b : Bool} {d : D} {a : Addr} (p : Post0 r h H r1 h1 H1) (x : CV K r h H b d a)
    (k : ∀ o, H a = some o → H1 a = some o) : CV K r1 h1 H1 b d a := by
  have kr : ∀ u, Rd H a u → Rd H1 a u := fun u q => by
    rcases q with q | ⟨ob, q⟩
    · exact .inl (k _ q)
    · exact .inr ⟨ob, k _ q⟩
  cases d with
  | lst xs => obtain ⟨vs, e, y⟩ := x; exact ⟨vs, k _ e, y.post p⟩
  | dK ks xs => obtain ⟨vs, e, l, z, y⟩ := x; exact ⟨vs, fun t => k _ (e t), l, kr _ z, y.post p⟩
  | dT ks xs => obtain ⟨vs, e, l, z, y⟩ := x; exact ⟨vs, fun t => k _ (e t), l, kr _ z, y.post p⟩
  | _ => exact x.elim
theorem HRel.new (x : HRel K r h H) {p : Addr} {o : HO} (hp : H p = none) : HRel K r h (upd H p o) where
  len := x.len
  nd := x.nd
  un := fun a ha => by obtain ⟨⟨u, e, z⟩, w⟩ := x.un a ha; exact ⟨⟨u, up_new hp e, z⟩, w⟩
  bb := x.bb
  cell := fun n b d e => by
    obtain ⟨z, a, e1, c⟩ := x.cell n b d e
    exact ⟨z, a, e1, c.post (Post.new x hp).p0 fun q e2 => up_new hp e2⟩
theorem HRel.there (x : HRel K r h H) {n : Nat} {a : Addr} (e : r.c[n]? = some a) : ∃ o, H a = some o := by
  have hn : n < h.length := by rw [← x.len]; exact (List.getElem?_eq_some_iff.mp e).1
  have e2 : h[n]? = some ((h[n]).1, (h[n]).2) := by rw [List.getElem?_eq_getElem hn]
  obtain ⟨_, a', e3, c⟩ := x.cell n _ _ e2
  rw [e] at e3; cases e3
  obtain ⟨o, z, _⟩ := c.at
  exact ⟨o, z⟩
theorem HRel.inj (x : HRel K r h H) {n k : Nat} {a : Addr} (e : r.c[n]? = some a) (e' : r.c[k]? = some a) : n = k := by
  obtain ⟨h1, e1⟩ := List.getElem?_eq_some_iff.mp e
  obtain ⟨h2, e2⟩ := List.getElem?_eq_some_iff.mp e'
  exact (List.getElem_inj x.nd).mp (e1.trans e2.symm)
theorem HRel.notin (x : HRel K r h H) {p : Addr} (hp : H p = none) : p ∉ r.c := fun hm => by
  obtain ⟨n, hn, e⟩ := List.getElem_of_mem hm
  obtain ⟨q, hq⟩ := x.there (n := n) (a := p) (by rw [List.getElem?_eq_getElem hn, e])
  rw [hp] at hq; cases hq
theorem HRel.notu (x : HRel K r h H) {p : Addr} (hp : H p = none) : p ∉ r.u := fun hm => by
  obtain ⟨⟨u, e, _⟩, _⟩ := x.un p hm
  rw [hp] at e; cases e
/-- a new live cell -/
theorem LiveA.snoc {p a : Addr} {b : Bool} {d : D} (hl : r.c.length = h.length) (l : LiveA (r.push p) (h ++ [(b, d)]) a) : LiveA r h a ∨ a = p := by
  rcases l with ⟨n, e, e1, e2⟩ | l
  · have e1 : (r.c ++ [p])[n]? = some a := e1
    by_cases hn : n < h.length
    · rw [List.getElem?_append_left (by omega)] at e1
      rw [List.getElem?_append_left hn] at e2
      exact .inl (.inl ⟨n, e, e1, e2⟩)
    · have hk : n = h.length := by
        have := (List.getElem?_eq_some_iff.mp e2).1
        simp at this; omega
      subst hk
      rw [List.getElem?_append_right (by omega)] at e1
      rw [hl, Nat.sub_self] at e1
      simp at e1
      exact .inr e1.symm
  · exact .inl (.inr l)
theorem Post.live (x : HRel K r h H) {p : Addr} {o : HO} {d : D} (hp : H p = none) : Post r h H (r.push p) (h ++ [(true, d)]) (upd H p o) := by
  have nl : ∀ a u, H a = some u → ¬ LiveA r h a → ¬ LiveA (r.push p) (h ++ [(true, d)]) a := fun a u e l q => (LiveA.snoc x.len q).elim l fun z => by rw [z, hp] at e; cases e
  exact ⟨⟨⟨[p], rfl⟩, fun a vs e l => ⟨up_new hp e, nl _ _ e l⟩, fun a vs e => up_new hp e, fun a o u e l => ⟨up_new hp e, nl _ _ e l⟩, fun a vs e l => ⟨.inl (up_new hp e), nl _ _ e l⟩, fun a vs e l => ⟨.inl (up_new hp e), nl _ _ e l⟩⟩,
    rfl, rfl, fun a ha => by obtain ⟨⟨u, e, _⟩, _⟩ := x.un a ha; rw [up_new hp e, e]⟩
theorem HRel.snoc (x : HRel K r h H) {p : Addr} {o : HO} {d : D} (hp : H p = none)
    (c : CV K (r.push p) (h ++ [(true, d)]) (upd H p o) true d p) : HRel K (r.push p) (h ++ [(true, d)]) (upd H p o) where
  len := by show (r.c ++ [p]).length = _; simp [x.len]
  nd := by
    show (r.c ++ [p]).Nodup
    rw [List.nodup_append]
    refine ⟨x.nd, by simp, fun a ha b hb e => ?_⟩
    simp at hb; subst hb; subst e
    exact x.notin hp ha
  un := fun a ha => by
    obtain ⟨⟨u, e, z⟩, w⟩ := x.un a ha
    refine ⟨⟨u, up_new hp e, z⟩, fun hm => ?_⟩
    rcases List.mem_append.mp (show a ∈ r.c ++ [p] from hm) with q | q
    · exact w q
    · simp at q; rw [q, hp] at e; cases e
  bb := fun q hq => by rw [List.length_append]; exact Nat.le_trans (x.bb q hq) (Nat.le_add_right _ _)
  cell := fun n b e he => by
    by_cases hn : n < h.length
    · rw [List.getElem?_append_left hn] at he
      obtain ⟨z, a, e1, q⟩ := x.cell n b e he
      refine ⟨z, a, ?_, q.post (Post.live x hp).p0 fun u e2 => up_new hp e2⟩
      show (r.c ++ [p])[n]? = some a
      rw [List.getElem?_append_left (by rw [x.len]; exact hn)]; exact e1
    · have hk : n = h.length := by
        have := (List.getElem?_eq_some_iff.mp he).1
        simp at this; omega
      subst hk
      rw [List.getElem?_append_right (Nat.le_refl _), Nat.sub_self] at he
      simp at he
      obtain ⟨rfl, rfl⟩ := he
      refine ⟨fun q hq hlt => absurd (x.bb q hq) (Nat.not_le_of_lt hlt), p, ?_, c⟩
      show (r.c ++ [p])[h.length]? = some p
      rw [List.getElem?_append_right (Nat.le_of_eq x.len), x.len, Nat.sub_self]; rfl
/-- a live cell written -/
theorem LiveA.set {n : Nat} {a : Addr} {d d' : D} (e : h[n]? = some (true, d)) (l : LiveA r (h.set n (true, d')) a) : LiveA r h a := by
  rcases l with ⟨k, c, e1, e2⟩ | l
  · by_cases hk : n = k
    · subst hk; exact .inl ⟨n, d, e1, e⟩
    · rw [List.getElem?_set_ne hk] at e2; exact .inl ⟨k, c, e1, e2⟩
  · exact .inr l
theorem Post.write (x : HRel K r h H) {n : Nat} {a : Addr} {d d' : D} {o : HO} (e : h[n]? = some (true, d)) (ea : r.c[n]? = some a) : Post r h H r (h.set n (true, d')) (upd H a o) := by
  have la : LiveA r h a := .inl ⟨n, d, ea, e⟩
  have nb : ∀ b, ¬ LiveA r h b → b ≠ a := fun b l z => l (by rw [z]; exact la)
  have nl : ∀ b, ¬ LiveA r h b → ¬ LiveA r (h.set n (true, d')) b := fun b l z => l (z.set e)
  refine ⟨⟨⟨[], by simp⟩, fun b vs q l => ⟨?_, nl b l⟩, fun b vs q => ?_, fun b o vs q l => ⟨?_, nl b l⟩, fun b vs q l => ⟨.inl ?_, nl b l⟩, fun b vs q l => ⟨.inl ?_, nl b l⟩⟩, rfl, rfl, fun b hb => ?_⟩
  · rw [upd_ne (nb b l)]; exact q
  · rw [upd_ne (fun z : b = a => by
      obtain ⟨u, e1, e2⟩ := x.live la
      rw [← z, q] at e1; cases e1; exact e2 _ rfl)]; exact q
  · rw [upd_ne (nb b l)]; exact q
  · rw [upd_ne (nb b l)]; exact q
  · rw [upd_ne (nb b l)]; exact q
  · rw [upd_ne (fun z : b = a => (x.un b hb).2 (by rw [z]; exact List.mem_of_getElem? ea))]
theorem HRel.write (x : HRel K r h H) {n : Nat} {a : Addr} {d d' : D} {o : HO} (e : h[n]? = some (true, d)) (ea : r.c[n]? = some a) (hr : ∀ q ∈ r.b, n < q → refsLt q d' = true)
    (c : CV K r (h.set n (true, d')) (upd H a o) true d' a) : HRel K r (h.set n (true, d')) (upd H a o) where
  len := by simp [x.len]
  nd := x.nd
  un := fun b hb => by
    obtain ⟨⟨u, q, z⟩, w⟩ := x.un b hb
    exact ⟨⟨u, by rw [(Post.write x e ea (d' := d') (o := o)).kU b hb]; exact q, z⟩, w⟩
  bb := fun q hq => by rw [List.length_set]; exact x.bb q hq
  cell := fun k b f hf => by
    by_cases hk : n = k
    · subst hk
      rw [List.getElem?_set_self (List.getElem?_eq_some_iff.mp e).1] at hf
      cases hf
      exact ⟨hr, a, ea, c⟩
    · rw [List.getElem?_set_ne hk] at hf
      obtain ⟨z, q, e1, w⟩ := x.cell k b f hf
      refine ⟨z, q, e1, w.post (Post.write x e ea).p0 fun u e2 => ?_⟩
      rw [upd_ne (fun z : q = a => hk (x.inj ea (by rw [← z]; exact e1)))]; exact e2
/-- a cell frozen -/
theorem LiveA.frz {n : Nat} {a : Addr} {d : D} (l : LiveA r (h.set n (false, d)) a) : LiveA r h a := by
  rcases l with ⟨k, c, e1, e2⟩ | l
  · by_cases hk : n = k
    · subst hk
      by_cases hn : n < h.length
      · rw [List.getElem?_set_self hn] at e2; cases e2
      · rw [List.getElem?_eq_none (by simp; omega)] at e2; cases e2
    · rw [List.getElem?_set_ne hk] at e2
      exact .inl ⟨k, c, e1, e2⟩
  · exact .inr l
theorem HRel.frzNot (x : HRel K r h H) {n : Nat} {a : Addr} {d : D} (ea : r.c[n]? = some a) : ¬ LiveA r (h.set n (false, d)) a := by
  rintro (⟨k, c, e1, e2⟩ | l)
  · have hk := x.inj ea e1
    subst hk
    by_cases hn : n < h.length
    · rw [List.getElem?_set_self hn] at e2; cases e2
    · rw [List.getElem?_eq_none (by simp; omega)] at e2; cases e2
  · exact (x.un a l).2 (List.mem_of_getElem? ea)
theorem Post.frz {n : Nat} {d : D} : Post r h H r (h.set n (false, d)) H :=
  ⟨⟨⟨[], by simp⟩, fun _ _ q l => ⟨q, fun z => l z.frz⟩, fun _ _ q => q, fun _ _ _ q l => ⟨q, fun z => l z.frz⟩, fun _ _ q l => ⟨.inl q, fun z => l z.frz⟩, fun _ _ q l => ⟨.inl q, fun z => l z.frz⟩⟩, rfl, rfl, fun _ _ => rfl⟩
theorem HRel.frz (x : HRel K r h H) {n : Nat} {b : Bool} {d : D} (e : h[n]? = some (b, d)) : HRel K r (h.set n (false, d)) H where
  len := by simp [x.len]
  nd := x.nd
  un := x.un
  bb := fun q hq => by rw [List.length_set]; exact x.bb q hq
  cell := fun k b' f hf => by
    by_cases hk : n = k
    · subst hk
      rw [List.getElem?_set_self (List.getElem?_eq_some_iff.mp e).1] at hf
      cases hf
      obtain ⟨z, a, ea, c⟩ := x.cell n b d e
      refine ⟨z, a, ea, ?_⟩
      have c := c.post (Post.frz (n := n) (d := d)).p0 fun o q => q
      cases d with
      | lst xs => exact c
      | dK ks xs => (obtain ⟨vs, _, l, z, y⟩ := c); exact ⟨vs, (fun t => by cases t), l, z, y⟩
      | dT ks xs => (obtain ⟨vs, _, l, z, y⟩ := c); exact ⟨vs, (fun t => by cases t), l, z, y⟩
      | _ => exact c.elim
    · rw [List.getElem?_set_ne hk] at hf
      obtain ⟨z, q, e1, w⟩ := x.cell k b' f hf
      exact ⟨z, q, e1, w.post Post.frz.p0 fun o q => q⟩
theorem RV.frz (x : HRel K r h H) {n : Nat} {b : Bool} {d : D} {a : Addr} (e : h[n]? = some (b, d)) (ea : r.c[n]? = some a) : RV K r (h.set n (false, d)) H d (.ref a) := by
  obtain ⟨_, a', ea', c⟩ := (x.frz e).cell n false d (by rw [List.getElem?_set_self (List.getElem?_eq_some_iff.mp e).1])
  rw [ea] at ea'; cases ea'
  have nl := x.frzNot ea (d := d)
  cases d with
  | lst xs => obtain ⟨vs, q, y⟩ := c; simp only [RV]; exact ⟨a, vs, rfl, nl, q, y⟩
  | dK ks xs => (obtain ⟨vs, _, l, q, y⟩ := c); simp only [RV]; exact ⟨a, vs, rfl, nl, l, q, y⟩
  | dT ks xs => (obtain ⟨vs, _, l, q, y⟩ := c); simp only [RV]; exact ⟨a, vs, rfl, nl, l, q, y⟩
  | _ => exact c.elim

/-! ### cells dropped at a def's end; what is no more under way -/
mutual
theorem RV.refs (hl : r.c.length = h.length) : ∀ {d : D} {v : V}, RV K r h H d v → refsLt h.length d = true
  | .non, _, _ => rfl
  | .bl _, _, _ => rfl
  | .int _, _, _ => rfl
  | .str _, _, _ => rfl
  | .tup xs, _, x => by
    simp only [RV] at x
    simp only [refsLt]
    obtain ⟨a, vs, _, _, y⟩ := x
    exact RVs.refs hl y
  | .scr xs, _, x => by
    simp only [RV] at x
    simp only [refsLt]
    obtain ⟨a, vs, _, _, y⟩ := x
    exact RVs.refs hl y
  | .lst xs, _, x => by
    simp only [RV] at x
    simp only [refsLt]
    obtain ⟨a, vs, _, _, _, y⟩ := x
    exact RVs.refs hl y
  | .dK ks xs, _, x => by
    simp only [RV] at x
    simp only [refsLt]
    obtain ⟨a, vs, _, _, _, _, y⟩ := x
    exact RVs.refs hl y
  | .dT ks xs, _, x => by
    simp only [RV] at x
    simp only [refsLt]
    obtain ⟨a, vs, _, _, _, _, y⟩ := x
    exact RVs.refs hl y
  | .ref k, _, x => by
    simp only [RV] at x
    simp only [refsLt, decide_eq_true_eq]
    obtain ⟨a, _, y⟩ := x
    rw [← hl]; exact (List.getElem?_eq_some_iff.mp y).1
theorem RVs.refs (hl : r.c.length = h.length) : ∀ {ds : List D} {vs : List V}, RVs K r h H ds vs → refsLts h.length ds = true
  | [], _, _ => rfl
  | d :: ds, _, x => by
    simp only [RVs] at x
    simp only [refsLts, Bool.and_eq_true]
    obtain ⟨v, w, _, y, z⟩ := x
    exact ⟨RV.refs hl y, RVs.refs hl z⟩
end
theorem CV.refs (hl : r.c.length = h.length) {b : Bool} {d : D} {a : Addr} (c : CV K r h H b d a) : refsLt h.length d = true := by
  cases d with
  | lst xs => obtain ⟨vs, e, y⟩ := c; simp only [refsLt]; exact y.refs hl
  | dK ks xs => obtain ⟨vs, e, l, z, y⟩ := c; simp only [refsLt]; exact y.refs hl
  | dT ks xs => obtain ⟨vs, e, l, z, y⟩ := c; simp only [refsLt]; exact y.refs hl
  | _ => exact c.elim
theorem Post0.bases {r' : Rm} (hc : r'.c = r.c) (hu : r'.u = r.u) : Post0 r h H r' h H := by
  have nl : ∀ a, ¬ LiveA r h a → ¬ LiveA r' h a := fun a l q => l (by unfold LiveA LiveC at q ⊢; rw [hc, hu] at q; exact q)
  exact ⟨⟨[], by rw [hc, List.append_nil]⟩, fun a vs q l => ⟨q, nl a l⟩, fun a vs q => q, fun a o u q l => ⟨q, nl a l⟩, fun a vs q l => ⟨.inl q, nl a l⟩, fun a vs q l => ⟨.inl q, nl a l⟩⟩
theorem HRel.enter (x : HRel K r h H) : HRel K (r.enter h.length) h H where
  len := x.len
  nd := x.nd
  un := x.un
  bb := fun q hq => by
    rcases List.mem_cons.mp hq with rfl | hq
    · exact Nat.le_refl _
    · exact x.bb q hq
  cell := fun n b d e => by
    obtain ⟨z, a, e1, c⟩ := x.cell n b d e
    refine ⟨fun q hq hlt => ?_, a, e1, c.post (Post0.bases (r := r) (r' := r.enter h.length) rfl rfl) fun o q => q⟩
    rcases List.mem_cons.mp hq with rfl | hq
    · exact c.refs x.len
    · exact z q hq hlt
mutual
theorem RV.cut {n : Nat} (hl : ∀ a, LiveA (r.cut n) (h.take n) a → LiveA r h a) : ∀ {d : D} {v : V}, refsLt n d = true → RV K r h H d v → RV K (r.cut n) (h.take n) H d v
  | .non, _, _, x => by simpa only [RV] using x
  | .bl _, _, _, x => by simpa only [RV] using x
  | .int _, _, _, x => by simpa only [RV] using x
  | .str _, _, _, x => by simpa only [RV] using x
  | .tup xs, _, q, x => by
    simp only [RV] at x ⊢; simp only [refsLt] at q
    obtain ⟨a, vs, e, t, y⟩ := x
    exact ⟨a, vs, e, t, RVs.cut hl q y⟩
  | .scr xs, _, q, x => by
    simp only [RV] at x ⊢; simp only [refsLt] at q
    obtain ⟨a, vs, e, t, y⟩ := x
    exact ⟨a, vs, e, t.imp id (Or.imp (fun ⟨o, z, l⟩ => ⟨o, z, fun q => l (hl a q)⟩) fun z => ⟨z.1, fun l => z.2 (hl a l)⟩), RVs.cut hl q y⟩
  | .lst xs, _, q, x => by
    simp only [RV] at x ⊢; simp only [refsLt] at q
    obtain ⟨a, vs, e, l, t, y⟩ := x
    exact ⟨a, vs, e, fun z => l (hl a z), t, RVs.cut hl q y⟩
  | .dK ks xs, _, q, x => by
    simp only [RV] at x ⊢; simp only [refsLt] at q
    obtain ⟨a, vs, e, l, z, t, y⟩ := x
    exact ⟨a, vs, e, fun z => l (hl a z), z, t, RVs.cut hl q y⟩
  | .dT ks xs, _, q, x => by
    simp only [RV] at x ⊢; simp only [refsLt] at q
    obtain ⟨a, vs, e, l, z, t, y⟩ := x
    exact ⟨a, vs, e, fun z => l (hl a z), z, t, RVs.cut hl q y⟩
  | .ref k, _, q, x => by
    simp only [RV] at x ⊢; simp only [refsLt] at q
    obtain ⟨a, e, y⟩ := x
    refine ⟨a, e, ?_⟩
    show (r.c.take n)[k]? = some a
    rw [List.getElem?_take_of_lt (of_decide_eq_true q)]; exact y
theorem RVs.cut {n : Nat} (hl : ∀ a, LiveA (r.cut n) (h.take n) a → LiveA r h a) : ∀ {ds : List D} {vs : List V}, refsLts n ds = true → RVs K r h H ds vs → RVs K (r.cut n) (h.take n) H ds vs
  | [], _, _, x => by simpa only [RVs] using x
  | d :: ds, _, q, x => by
    simp only [RVs] at x ⊢; simp only [refsLts, Bool.and_eq_true] at q
    obtain ⟨v, w, e, y, z⟩ := x
    exact ⟨v, w, e, RV.cut hl q.1 y, RVs.cut hl q.2 z⟩
end
theorem LiveA.cut {n : Nat} {a : Addr} (l : LiveA (r.cut n) (h.take n) a) : LiveA r h a := by
  rcases l with ⟨k, d, e1, e2⟩ | l
  · refine .inl ⟨k, d, ?_, ?_⟩
    · have e1 : (r.c.take n)[k]? = some a := e1
      rw [List.getElem?_take] at e1; split at e1
      · exact e1
      · cases e1
    · rw [List.getElem?_take] at e2; split at e2
      · exact e2
      · cases e2
  · exact .inr l
mutual
theorem refsLt.mono {n k : Nat} (hk : n ≤ k) : ∀ {d : D}, refsLt n d = true → refsLt k d = true
  | .non, _ => rfl
  | .bl _, _ => rfl
  | .int _, _ => rfl
  | .str _, _ => rfl
  | .tup xs, q => by simp only [refsLt] at q ⊢; exact refsLts.mono hk q
  | .lst xs, q => by simp only [refsLt] at q ⊢; exact refsLts.mono hk q
  | .scr xs, q => by simp only [refsLt] at q ⊢; exact refsLts.mono hk q
  | .dK _ xs, q => by simp only [refsLt] at q ⊢; exact refsLts.mono hk q
  | .dT _ xs, q => by simp only [refsLt] at q ⊢; exact refsLts.mono hk q
  | .ref j, q => by simp only [refsLt, decide_eq_true_eq] at q ⊢; omega
theorem refsLts.mono {n k : Nat} (hk : n ≤ k) : ∀ {ds : List D}, refsLts n ds = true → refsLts k ds = true
  | [], _ => rfl
  | d :: ds, q => by
    simp only [refsLts, Bool.and_eq_true] at q ⊢
    exact ⟨refsLt.mono hk q.1, refsLts.mono hk q.2⟩
end
theorem HRel.cut (x : HRel K r h H) {n : Nat} {bs : List Nat} (e : r.b = n :: bs) (hb : ∀ q ∈ bs, q ≤ n) : HRel K ((r.cut n).leave) (h.take n) H where
  len := by show (r.c.take n).length = _; simp [x.len]
  nd := x.nd.sublist (List.take_sublist _ _)
  un := fun a ha => ⟨(x.un a ha).1, fun hm => (x.un a ha).2 (List.mem_of_mem_take hm)⟩
  bb := fun q hq => by
    have hq : q ∈ r.b.tail := hq
    rw [e] at hq
    have h1 := hb q hq
    have h2 := x.bb n (by rw [e]; exact List.mem_cons_self)
    rw [List.length_take]; omega
  cell := fun k b d en => by
    rw [List.getElem?_take] at en
    split at en
    · rename_i hk
      obtain ⟨z, a, e1, c⟩ := x.cell k b d en
      have zn : refsLt n d = true := z n (by rw [e]; exact List.mem_cons_self) hk
      refine ⟨fun q hq hlt => z q (by rw [e]; exact List.mem_cons_of_mem _ (by have hq : q ∈ r.b.tail := hq; rw [e] at hq; exact hq)) hlt, a, ?_, ?_⟩
      · show (r.c.take n)[k]? = some a
        rw [List.getElem?_take_of_lt hk]; exact e1
      · have go : CV K (r.cut n) (h.take n) H b d a := by
          cases d with
          | lst xs => obtain ⟨vs, e, y⟩ := c; exact ⟨vs, e, RVs.cut (fun _ => LiveA.cut) (by simpa only [refsLt] using zn) y⟩
          | dK ks xs => obtain ⟨vs, e, l, z, y⟩ := c; exact ⟨vs, e, l, z, RVs.cut (fun _ => LiveA.cut) (by simpa only [refsLt] using zn) y⟩
          | dT ks xs => obtain ⟨vs, e, l, z, y⟩ := c; exact ⟨vs, e, l, z, RVs.cut (fun _ => LiveA.cut) (by simpa only [refsLt] using zn) y⟩
          | _ => exact c.elim
        exact go.post (Post0.bases (r := r.cut n) (r' := (r.cut n).leave) rfl rfl) fun o q => q
    · cases en
theorem Post.cut (p : Post r h H r1 h1 H1) (hl : r.c.length = h.length) : Post r h H (r1.cut h.length) (h1.take h.length) H1 := by
  obtain ⟨s, e⟩ := p.p0.pre
  refine ⟨⟨⟨[], ?_⟩, fun a vs q l => ⟨(p.p0.kL a vs q l).1, fun z => (p.p0.kL a vs q l).2 z.cut⟩, p.p0.kT, fun a o u q l => ⟨(p.p0.kF a o u q l).1, fun z => (p.p0.kF a o u q l).2 z.cut⟩,
    fun a vs q l => ⟨(p.p0.kK a vs q l).1, fun z => (p.p0.kK a vs q l).2 z.cut⟩, fun a vs q l => ⟨(p.p0.kD a vs q l).1, fun z => (p.p0.kD a vs q l).2 z.cut⟩⟩, p.us, p.bs, p.kU⟩
  show r1.c.take h.length = _
  rw [e, List.append_nil, ← hl, List.take_left]
/-- something new that is under way -/
theorem LiveA.hide {p a : Addr} : LiveA (r.hide p) h a ↔ LiveA r h a ∨ a = p := by
  constructor
  · rintro (l | l)
    · exact .inl (.inl l)
    · rcases List.mem_cons.mp l with l | l
      · exact .inr l
      · exact .inl (.inr l)
  · rintro ((l | l) | l)
    · exact .inl l
    · exact .inr (List.mem_cons_of_mem _ l)
    · subst l; exact .inr List.mem_cons_self
/-- from r to r.hide p: the new object at p is known to nobody -/
theorem Post0.hide {p : Addr} {o : HO} (hp : H p = none) : Post0 r h H (r.hide p) h (upd H p o) := by
  have nl : ∀ a u, H a = some u → ¬ LiveA r h a → ¬ LiveA (r.hide p) h a := fun a u e l q => (LiveA.hide.mp q).elim l fun z => by rw [z, hp] at e; cases e
  exact ⟨⟨[], by simp [Rm.hide]⟩, fun a vs e l => ⟨up_new hp e, nl _ _ e l⟩, fun a vs e => up_new hp e, fun a o u e l => ⟨up_new hp e, nl _ _ e l⟩, fun a vs e l => ⟨.inl (up_new hp e), nl _ _ e l⟩, fun a vs e l => ⟨.inl (up_new hp e), nl _ _ e l⟩⟩
theorem HRel.hide (x : HRel K r h H) {p : Addr} {o : HO} (hp : H p = none) (ho : ∀ vs, o ≠ .tup vs) : HRel K (r.hide p) h (upd H p o) where
  len := x.len
  nd := x.nd
  un := fun a ha => by
    rcases List.mem_cons.mp ha with rfl | ha
    · exact ⟨⟨o, upd_same, ho⟩, x.notin hp⟩
    · obtain ⟨⟨u, e, z⟩, w⟩ := x.un a ha
      exact ⟨⟨u, up_new hp e, z⟩, w⟩
  bb := x.bb
  cell := fun n b d e => by
    obtain ⟨z, a, e1, c⟩ := x.cell n b d e
    exact ⟨z, a, e1, c.post (Post0.hide hp) fun q e2 => up_new hp e2⟩
/-- what is under way at p is written, and goes on to be under way -/
theorem Post0.wr {p : Addr} {o o' : HO} (hu : p ∈ r.u) (e : H p = some o) (ho : ∀ vs, o ≠ .tup vs) : Post0 r h H r h (upd H p o') := by
  have nb : ∀ b, ¬ LiveA r h b → b ≠ p := fun b l z => l (by rw [z]; exact .inr hu)
  refine ⟨⟨[], by simp⟩, fun b vs q l => ⟨?_, l⟩, fun b vs q => ?_, fun b o vs q l => ⟨?_, l⟩, fun b vs q l => ⟨.inl ?_, l⟩, fun b vs q l => ⟨.inl ?_, l⟩⟩
  · rw [upd_ne (nb b l)]; exact q
  · rw [upd_ne (fun z : b = p => by rw [z, e] at q; cases q; exact ho _ rfl)]; exact q
  · rw [upd_ne (nb b l)]; exact q
  · rw [upd_ne (nb b l)]; exact q
  · rw [upd_ne (nb b l)]; exact q
theorem HRel.wr (x : HRel K r h H) {p : Addr} {o' : HO} (hu : p ∈ r.u) (ho : ∀ vs, o' ≠ .tup vs) : HRel K r h (upd H p o') := by
  obtain ⟨⟨o, e, z⟩, w⟩ := x.un p hu
  refine ⟨x.len, x.nd, fun a ha => ?_, x.bb, fun n b d en => ?_⟩
  · by_cases hb : a = p
    · subst hb; exact ⟨⟨o', upd_same, ho⟩, w⟩
    · obtain ⟨⟨u, e', z'⟩, w'⟩ := x.un a ha
      exact ⟨⟨u, by rw [upd_ne hb]; exact e', z'⟩, w'⟩
  · obtain ⟨z2, a, e1, c⟩ := x.cell n b d en
    refine ⟨z2, a, e1, c.post (Post0.wr hu e z) fun q e2 => ?_⟩
    rw [upd_ne (fun z3 : a = p => w (by rw [← z3]; exact List.mem_of_getElem? e1))]; exact e2
/-- it is no more under way: p may be known from now on -/
theorem Post0.show {p : Addr} {o : HO} (e : H p = some o) : Post0 (r.hide p) h H r h H := by
  have nl : ∀ a, ¬ LiveA (r.hide p) h a → ¬ LiveA r h a := fun a l q => l (LiveA.hide.mpr (.inl q))
  exact ⟨⟨[], by simp [Rm.hide]⟩, fun a vs q l => ⟨q, nl a l⟩, fun a vs q => q, fun a o u q l => ⟨q, nl a l⟩, fun a vs q l => ⟨.inl q, nl a l⟩, fun a vs q l => ⟨.inl q, nl a l⟩⟩
theorem HRel.show {p : Addr} (x : HRel K (r.hide p) h H) : HRel K r h H := by
  obtain ⟨⟨o, e, z⟩, w⟩ := x.un p List.mem_cons_self
  exact ⟨x.len, x.nd, fun a ha => x.un a (List.mem_cons_of_mem _ ha), x.bb, fun n b d en => by
    obtain ⟨z2, a, e1, c⟩ := x.cell n b d en
    exact ⟨z2, a, e1, c.post (Post0.show e) fun q e2 => e2⟩⟩
/-- a heap without p -/
def del (H : Hp) (p : Addr) : Hp := fun b => if b = p then none else H b
theorem del_ne {H : Hp} {p b : Addr} (h : b ≠ p) : del H p b = H b := by unfold del; rw [if_neg h]
theorem del_same {H : Hp} {p : Addr} : del H p p = none := by unfold del; rw [if_pos rfl]
theorem upd_del {H : Hp} {p : Addr} {o : HO} : upd (del H p) p o = upd H p o := by
  funext b
  unfold upd del
  split <;> rfl
/-- p, that was under way, is forgotten -/
theorem Post0.drop {p : Addr} {u0 : List Addr} (x : HRel K r1 h1 H1) (us : r1.u = p :: u0) : Post0 r1 h1 H1 ⟨r1.c, u0, r1.b⟩ h1 (del H1 p) := by
  have nb : ∀ b, ¬ LiveA r1 h1 b → b ≠ p := fun b l z => l (.inr (by rw [us, z]; exact List.mem_cons_self))
  have nl : ∀ a, ¬ LiveA r1 h1 a → ¬ LiveA ⟨r1.c, u0, r1.b⟩ h1 a := fun a l q => l (q.imp id fun z => by rw [us]; exact List.mem_cons_of_mem _ z)
  obtain ⟨⟨o, e, ho⟩, _⟩ := x.un p (by rw [us]; exact List.mem_cons_self)
  refine ⟨⟨[], by simp⟩, fun a vs q l => ⟨?_, nl a l⟩, fun a vs q => ?_, fun a o u q l => ⟨?_, nl a l⟩, fun a vs q l => ⟨.inl ?_, nl a l⟩, fun a vs q l => ⟨.inl ?_, nl a l⟩⟩
  · rw [del_ne (nb a l)]; exact q
  · rw [del_ne (fun z : a = p => by rw [z, e] at q; cases q; exact ho _ rfl)]; exact q
  · rw [del_ne (nb a l)]; exact q
  · rw [del_ne (nb a l)]; exact q
  · rw [del_ne (nb a l)]; exact q
theorem HRel.drop {p : Addr} {u0 : List Addr} (x : HRel K r1 h1 H1) (us : r1.u = p :: u0) (un : p ∉ u0) : HRel K ⟨r1.c, u0, r1.b⟩ h1 (del H1 p) := by
  obtain ⟨⟨o, e, z⟩, w⟩ := x.un p (by rw [us]; exact List.mem_cons_self)
  refine ⟨x.len, x.nd, fun a ha => ?_, x.bb, fun n b d en => ?_⟩
  · obtain ⟨⟨u, e', z'⟩, w'⟩ := x.un a (by rw [us]; exact List.mem_cons_of_mem _ ha)
    exact ⟨⟨u, by rw [del_ne (fun q : a = p => un (q ▸ ha))]; exact e', z'⟩, w'⟩
  · obtain ⟨z2, a, e1, c⟩ := x.cell n b d en
    refine ⟨z2, a, e1, c.post (Post0.drop x us) fun q e2 => ?_⟩
    rw [del_ne (fun z3 : a = p => w (by rw [← z3]; exact List.mem_of_getElem? e1))]; exact e2
/-- from ahead of p to behind it -/
theorem Post.shown {p : Addr} {o : HO} (x : HRel K r h H) (hp : H p = none) (y : HRel K r1 h1 H1) (q : Post0 (r.hide p) h (upd H p o) r1 h1 H1) (us : r1.u = p :: r.u) (bs : r1.b = r.b) (kU : ∀ a ∈ r.u, H1 a = H a) :
    Post r h H ⟨r1.c, r.u, r1.b⟩ h1 (del H1 p) :=
  ⟨(Post0.hide hp).trans (q.trans (Post0.drop y us)), rfl, bs, fun a ha => by rw [del_ne (fun z : a = p => x.notu hp (z ▸ ha))]; exact kU a ha⟩
/-- a dict that nobody writes is locked for good -/
theorem Post.lock (x : HRel K r h H) {a : Addr} {o : HO} {od : Obj} (e : H a = some o) (ho : (∃ vs, o = .dK vs) ∨ ∃ vs, o = .dT vs) (nl : ¬ LiveA r h a) : Post r h H r h (upd H a (.frz od o)) := by
  refine ⟨⟨⟨[], by simp⟩, fun b vs q l => ⟨?_, l⟩, fun b vs q => ?_, fun b o' vs q l => ⟨?_, l⟩, fun b vs q l => ⟨?_, l⟩, fun b vs q l => ⟨?_, l⟩⟩, rfl, rfl, fun b hb => ?_⟩
  · rw [upd_ne (fun z => by rw [z, e] at q; cases q; rcases ho with ⟨_, z⟩ | ⟨_, z⟩ <;> cases z)]; exact q
  · rw [upd_ne (fun z => by rw [z, e] at q; cases q; rcases ho with ⟨_, z⟩ | ⟨_, z⟩ <;> cases z)]; exact q
  · rw [upd_ne (fun z => by rw [z, e] at q; cases q; rcases ho with ⟨_, z⟩ | ⟨_, z⟩ <;> cases z)]; exact q
  · by_cases z : b = a
    · rw [z, e] at q; cases q; rw [z]; exact .inr ⟨od, upd_same⟩
    · exact .inl (by rw [upd_ne z]; exact q)
  · by_cases z : b = a
    · rw [z, e] at q; cases q; rw [z]; exact .inr ⟨od, upd_same⟩
    · exact .inl (by rw [upd_ne z]; exact q)
  · rw [upd_ne (fun z => nl (.inr (by rw [← z]; exact hb)))]
theorem HRel.lock (x : HRel K r h H) {a : Addr} {o : HO} {od : Obj} (e : H a = some o) (ho : (∃ vs, o = .dK vs) ∨ ∃ vs, o = .dT vs) (nl : ¬ LiveA r h a) : HRel K r h (upd H a (.frz od o)) where
  len := x.len
  nd := x.nd
  un := fun b hb => by
    obtain ⟨z, n⟩ := x.un b hb
    rw [upd_ne (fun z => nl (.inr (by rw [← z]; exact hb)))]
    exact ⟨z, n⟩
  bb := x.bb
  cell := fun n b d q => by
    obtain ⟨g, c, ec, cv⟩ := x.cell n b d q
    refine ⟨g, c, ec, ?_⟩
    have p := (Post.lock (od := od) x e ho nl).p0
    have key : ∀ (u : HO), H c = some u → (c ≠ a → (upd H a (.frz od o)) c = some u) := fun u q1 q2 => by rw [upd_ne q2]; exact q1
    have ne : b = true → c ≠ a := fun hb z => nl (.inl ⟨n, d, by rw [← z]; exact ec, by rw [← hb]; exact q⟩)
    cases d with
    | lst xs =>
      obtain ⟨vs, e1, y⟩ := cv
      exact ⟨vs, by rw [upd_ne (fun z => by rw [z, e] at e1; cases e1; rcases ho with ⟨_, z⟩ | ⟨_, z⟩ <;> cases z)]; exact e1, y.post p⟩
    | dK ks xs =>
      obtain ⟨vs, e1, l, e2, y⟩ := cv
      refine ⟨vs, fun hb => by rw [upd_ne (ne hb)]; exact e1 hb, l, ?_, y.post p⟩
      by_cases z : c = a
      · rcases e2 with e2 | ⟨o2, e2⟩
        · rw [z, e] at e2; cases e2; rw [z]; exact .inr ⟨od, upd_same⟩
        · rw [z, e] at e2; cases e2; rcases ho with ⟨_, z⟩ | ⟨_, z⟩ <;> cases z
      · unfold Rd; rw [upd_ne z]; exact e2
    | dT ks xs =>
      obtain ⟨vs, e1, l, e2, y⟩ := cv
      refine ⟨vs, fun hb => by rw [upd_ne (ne hb)]; exact e1 hb, l, ?_, y.post p⟩
      by_cases z : c = a
      · rcases e2 with e2 | ⟨o2, e2⟩
        · rw [z, e] at e2; cases e2; rw [z]; exact .inr ⟨od, upd_same⟩
        · rw [z, e] at e2; cases e2; rcases ho with ⟨_, z⟩ | ⟨_, z⟩ <;> cases z
      · unfold Rd; rw [upd_ne z]; exact e2
    | _ => exact cv.elim
end
end Mi

/-! Mi2: the judgements, names, constants, operators, tests. -/
namespace Mi
open PySem PySem.Spec PyProof.Rows L2
theorem Res.bind_assoc {α β γ : Type} (r : Res α) (k : α → Cells → Res β) (l : β → Cells → Res γ) : (r.bind k).bind l = r.bind fun a h => (k a h).bind l := by
  cases r <;> rfl

/-- what is wanted where something is raised -/
structure Wish where
  p : Rm → Cells → Hp → Ex → Cells → Prop
  U : List Addr
  sub : ∀ {r : Rm} {h h' : Cells} {H : Hp} {x : Ex}, p r h H x h' → ∀ a ∈ U, a ∈ r.u
  mono : ∀ {r r1 : Rm} {h h1 h' : Cells} {H H1 : Hp} {x : Ex}, Post r h H r1 h1 H1 → p r h H x h' → p r1 h1 H1 x h'
  hide : ∀ {r : Rm} {h h' : Cells} {H : Hp} {x : Ex} {q : Addr} {o : HO}, H q = none → q ∉ r.u → p r h H x h' → p (r.hide q) h (upd H q o) x h'
  wr : ∀ {r : Rm} {h h' : Cells} {H : Hp} {x : Ex} {q : Addr} {o : HO}, q ∈ r.u → q ∉ U → (∀ vs, H q ≠ some (.tup vs)) → p r h H x h' → p r h (upd H q o) x h'
def W0 : Wish := ⟨fun _ _ _ _ _ => False, [], fun h => h.elim, fun _ h => h, fun _ _ h => h, fun _ _ _ h => h⟩
abbrev RRT (α β : Type) := Rm → Cells → Hp → α → β → Prop
def Wg {α β : Type} (K : PySem.W.Frag) (W : Wish) (RR : RRT α β) (res : Res α) (r : Rm) (h : Cells) (H : Hp) (Q : β → Hp → Prop) : Prop := match res with
  | .ok a h' => ∀ r' H' b, HRel K r' h' H' → Post r h H r' h' H' → RR r' h' H' a b → Q b H'
  | .exc x h' => W.p r h H x h'
  | .stuck => False
abbrev RRv (K : PySem.W.Frag) : RRT D V := fun r h H => RV K r h H
abbrev RRs (K : PySem.W.Frag) : RRT (List D) (List V) := fun r h H => RVs K r h H
abbrev RRe {α : Type} : RRT α α := fun _ _ _ a b => b = a
def tG {α β : Type} (K : PySem.W.Frag) (W : Wish) (RR : RRT α β) (f : Loc → Cells → Res α) : L2.St → Hp → (β → Hp → Prop) → Prop := fun σ H Q =>
  ∃ r h m, Rel K r h H m σ ∧ Wg K W RR (f m h) r h H Q
structure PM (X : Cx) (W : Wish) (e : Expr) (f : ME) : Prop where
  pe : PE X e (tG X.K W (RRv X.K) f)
structure PMT (X : Cx) (W : Wish) (e : Expr) (f : MT) : Prop where
  pt : PT X e (tG X.K W RRe f)
structure PMW (X : Cx) (W : Wish) (e : Expr) (f : MT) : Prop where
  pw : PW X e (tG X.K W RRe f)
structure PMA (X : Cx) (W : Wish) (es : List Expr) (f : MA) : Prop where
  pa : PA X es (tG X.K W (RRs X.K) f)
section
variable {K : PySem.W.Frag} {W : Wish} {α β γ δ ε ζ : Type}
theorem Wg.post {RR : RRT α β} {res : Res α} {r r1 : Rm} {h h1 : Cells} {H H1 : Hp} {Q : β → Hp → Prop} (p : Post r h H r1 h1 H1) (w : Wg K W RR res r h H Q) : Wg K W RR res r1 h1 H1 Q := by
  cases res with
  | ok a h' => exact fun r' H' b hr q rr => w r' H' b hr (p.trans q) rr
  | exc x h' => exact W.mono p w
  | stuck => exact w.elim
theorem Wg.imp {RR : RRT α β} {res : Res α} {r : Rm} {h : Cells} {H : Hp} {Q Q' : β → Hp → Prop} (w : Wg K W RR res r h H Q) (i : ∀ b H', Q b H' → Q' b H') : Wg K W RR res r h H Q' := by
  cases res with
  | ok a h' => exact fun r' H' b hr q rr => i _ _ (w r' H' b hr q rr)
  | exc x h' => exact w
  | stuck => exact w.elim
theorem Wg.bind {RR0 : RRT α β} {RR : RRT γ δ} {res : Res α} {k : α → Cells → Res γ} {r : Rm} {h : Cells} {H : Hp} {Q : δ → Hp → Prop} (w : Wg K W RR (res.bind k) r h H Q) :
    Wg K W RR0 res r h H fun b H1 => ∃ r1 h1 a, HRel K r1 h1 H1 ∧ Post r h H r1 h1 H1 ∧ RR0 r1 h1 H1 a b ∧ res = .ok a h1 ∧ Wg K W RR (k a h1) r1 h1 H1 Q := by
  cases res with
  | ok a h' => exact fun r' H' b hr q rr => ⟨r', h', a, hr, q, rr, rfl, w.post q⟩
  | exc x h' => exact w
  | stuck => exact w.elim
def Stb (RR : RRT α β) : Prop := ∀ {r r1 : Rm} {h h1 : Cells} {H H1 : Hp} {a : α} {b : β}, Post r h H r1 h1 H1 → RR r h H a b → RR r1 h1 H1 a b
theorem stb_v : Stb (RRv K) := fun p x => x.post p.p0
theorem stb_s : Stb (RRs K) := fun p x => x.post p.p0
theorem stb_e : Stb (RRe (α := α)) := fun _ x => x
theorem tG.one {RR0 : RRT α β} {RR : RRT γ δ} {f : Loc → Cells → Res α} {k : α → Cells → Res γ} {σ : L2.St} {H : Hp} {Q : δ → Hp → Prop} (t : tG K W RR (fun m h => (f m h).bind k) σ H Q) :
    tG K W RR0 f σ H fun b H1 => ∃ r h a, HRel K r h H1 ∧ RR0 r h H1 a b ∧ Wg K W RR (k a h) r h H1 Q := by
  obtain ⟨r, h, m, x, w⟩ := t
  refine ⟨r, h, m, x, (Wg.bind (RR0 := RR0) w).imp fun b H1 ⟨r1, h1, a, hr, p, rr, _, w1⟩ => ⟨r1, h1, a, hr, rr, w1⟩⟩
theorem tG.two {RR0 : RRT α β} {RR1 : RRT ε ζ} {RR : RRT γ δ} (s0 : Stb RR0) {f : Loc → Cells → Res α} {g : Loc → Cells → Res ε} {k : α → ε → Cells → Res γ} {σ : L2.St} {H : Hp} {Q : δ → Hp → Prop}
    (t : tG K W RR (fun m h => (f m h).bind fun a h1 => (g m h1).bind fun b h2 => k a b h2) σ H Q) :
    tG K W RR0 f σ H fun v H1 => tG K W RR1 g σ H1 fun w H2 => ∃ r h a b, HRel K r h H2 ∧ RR0 r h H2 a v ∧ RR1 r h H2 b w ∧ Wg K W RR (k a b h) r h H2 Q := by
  obtain ⟨r, h, m, x, w⟩ := t
  refine ⟨r, h, m, x, (Wg.bind (RR0 := RR0) w).imp fun v H1 ⟨r1, h1, a, hr, p, rr, _, w1⟩ => ⟨r1, h1, m, x.post p hr, (Wg.bind (RR0 := RR1) w1).imp fun u H2 ⟨r2, h2, b, hr2, p2, rr2, _, w2⟩ => ⟨r2, h2, a, b, hr2, s0 p2 rr, rr2, w2⟩⟩⟩
/-- a test, then by its answer -/
theorem tG.ite {RR : RRT γ δ} {f : MT} {g g' : Loc → Cells → Res γ} {σ : L2.St} {H : Hp} {Q : δ → Hp → Prop} (t : tG K W RR (fun m h => (f m h).bind fun b h1 => if b = true then g m h1 else g' m h1) σ H Q) :
    tG K W RRe f σ H fun c H1 => if c = true then tG K W RR g σ H1 Q else tG K W RR g' σ H1 Q := by
  obtain ⟨r, h, m, x, w⟩ := t
  refine ⟨r, h, m, x, (Wg.bind (RR0 := RRe) w).imp fun c H1 ⟨r1, h1, a, hr, p, rr, _, w1⟩ => ?_⟩
  cases rr
  cases c with
  | true => exact ⟨r1, h1, m, x.post p hr, w1⟩
  | false => exact ⟨r1, h1, m, x.post p hr, w1⟩
end
theorem _root_.L2.PE.imp {X : Cx} {e : Expr} {t t' : TE} (h : PE X e t) (i : ∀ σ H Q, t' σ H Q → t σ H Q) : PE X e t' := ⟨fun pins s σ H Q I w => h.run pins s σ H Q I (i σ H Q w)⟩
theorem _root_.L2.PT.imp {X : Cx} {e : Expr} {t t' : TT} (h : PT X e t) (i : ∀ σ H Q, t' σ H Q → t σ H Q) : PT X e t' := ⟨fun pins s σ H Q I w => h.run pins s σ H Q I (i σ H Q w)⟩
theorem _root_.L2.PW.imp {X : Cx} {e : Expr} {t t' : TT} (h : PW X e t) (i : ∀ σ H Q, t' σ H Q → t σ H Q) : PW X e t' := ⟨fun wh pins s σ H Q I w => h.run wh pins s σ H Q I (i σ H Q w)⟩
theorem _root_.L2.PA.imp {X : Cx} {es : List Expr} {t t' : TA} (h : PA X es t) (i : ∀ σ H Q, t' σ H Q → t σ H Q) : PA X es t' := ⟨fun p pins s σ H Q I w => h.run p pins s σ H Q I (i σ H Q w)⟩
theorem _root_.L2.PS.imp {X : Cx} {e : Stmt} {t t' : TS} (h : PS X e t) (i : ∀ D σ H, t' D σ H → t D σ H) : PS X e t' := ⟨fun pins s σ H D I w => h.run pins s σ H D I (i D σ H w)⟩
theorem _root_.L2.PSs.imp {X : Cx} {e : List Stmt} {t t' : TS} (h : PSs X e t) (i : ∀ D σ H, t' D σ H → t D σ H) : PSs X e t' := ⟨fun pins s σ H D I w => h.run pins s σ H D I (i D σ H w)⟩

/-! ### names, constants -/
def E_var (i : Nat) : ME := fun m h => match m.v[i]? with
  | some (some d) => .ok d h
  | _ => .stuck
/-- a name whose live list (dict) is no more written behind this -/
def frzD (d : D) (h : Cells) : Res D := match d with
  | .ref n => (match h[n]? with
    | some (_, c) => .ok c (h.set n (false, c))
    | none => .stuck)
  | d => .ok d h
def E_frz (i : Nat) : ME := fun m h => match m.v[i]? with
  | some (some d) => frzD d h
  | _ => .stuck
def E_c (d : D) : ME := fun _ h => .ok d h
section
variable {X : Cx} {W : Wish}
theorem pm_var (i : Nat) {x : Str} {pos : Pos} (hN : X.N[i]? = some x := by rfl) (hv : Vis X.env.scope x := by first | exact Or.inl rfl | exact Or.inr (Or.inl rfl) | exact Or.inr (Or.inr rfl)) (hd : (x == ("__debug__" : Str)) = false := by decide)
    (hcd : (x == ("__classdict__" : Str)) = false := by decide) : PM X W (.Name x pos) (E_var i) := by
  refine ⟨(pe_var hN hv hd hcd).imp fun σ H Q ⟨r, h, m, x, w⟩ => ?_⟩
  unfold E_var at w
  split at w
  · rename_i d e
    obtain ⟨v, e1, rv⟩ := x.lr.2 i d e
    exact ⟨v, e1, w r H v x.hr .refl rv⟩
  · exact w.elim
theorem frz_ok {K : PySem.W.Frag} {r : Rm} {h : Cells} {H : Hp} {d : D} {v : V} {Q : VK} (hr : HRel K r h H) (rv : RV K r h H d v) (w : Wg K W (RRv K) (frzD d h) r h H Q) : Q v H := by
  unfold frzD at w
  split at w
  · rename_i n
    split at w
    · rename_i b c e
      simp only [RV] at rv
      obtain ⟨a, rfl, ea⟩ := rv
      exact w r H _ (hr.frz e) Post.frz (RV.frz hr e ea)
    · exact w.elim
  · exact w r H v hr .refl rv
theorem pm_frz (i : Nat) {x : Str} {pos : Pos} (hN : X.N[i]? = some x := by rfl) (hv : Vis X.env.scope x := by first | exact Or.inl rfl | exact Or.inr (Or.inl rfl) | exact Or.inr (Or.inr rfl)) (hd : (x == ("__debug__" : Str)) = false := by decide)
    (hcd : (x == ("__classdict__" : Str)) = false := by decide) : PM X W (.Name x pos) (E_frz i) := by
  refine ⟨(pe_var hN hv hd hcd).imp fun σ H Q ⟨r, h, m, x, w⟩ => ?_⟩
  unfold E_frz at w
  split at w
  · rename_i d e
    obtain ⟨v, e1, rv⟩ := x.lr.2 i d e
    exact ⟨v, e1, frz_ok x.hr rv w⟩
  · exact w.elim
theorem pm_c {e : Expr} {d : D} {v : V} (h : PE X e (tC v)) (rv : ∀ r h H, RV X.K r h H d v) : PM X W e (E_c d) :=
  ⟨h.imp fun σ H Q ⟨r, hh, m, x, w⟩ => w r H v x.hr .refl (rv r hh H)⟩
theorem pm_int {i : Int} {j pos} : PM X W (.Constant (.int i) j pos) (E_c (.int i)) := pm_c pe_int fun _ _ _ => by simp only [RV]
theorem pm_str {x : Str} {j pos} : PM X W (.Constant (.str x) j pos) (E_c (.str x)) := pm_c pe_str fun _ _ _ => by simp only [RV]
theorem pm_bl {b : Bool} {j pos} : PM X W (.Constant (.bool b) j pos) (E_c (.bl b)) := pm_c pe_bl fun _ _ _ => by simp only [RV]
theorem pm_non {j pos} : PM X W (.Constant .none j pos) (E_c .non) := pm_c pe_non fun _ _ _ => by simp only [RV]
theorem pm_gint {x : Str} {i : Int} {t : Tok} {pos : Pos} (hm : X.mg x = some (.int i t)) (hg : Gl X x := by rfl) (hd : (x == ("__debug__" : Str)) = false := by decide) : PM X W (.Name x pos) (E_c (.int i)) :=
  pm_c (v := .int i) (pe_glob hg hm ⟨t, rfl⟩ hd) fun _ _ _ => by simp only [RV]
theorem pm_gstr {x y : Str} {t : Tok} {pos : Pos} (hm : X.mg x = some (.str y t)) (hg : Gl X x := by rfl) (hd : (x == ("__debug__" : Str)) = false := by decide) : PM X W (.Name x pos) (E_c (.str y)) :=
  pm_c (v := .str y) (pe_glob hg hm ⟨t, rfl⟩ hd) fun _ _ _ => by simp only [RV]
end

/-! ### two-place operators -/
def E2 (g : D → D → Cells → Res D) (f f' : ME) : ME := fun m h => (f m h).bind fun x h1 => (f' m h1).bind fun y h2 => g x y h2
def OpS (K : PySem.W.Frag) (W : Wish) (rule : R2) (g : D → D → Cells → Res D) : Prop :=
  ∀ (r : Rm) (h : Cells) (H : Hp) (d e : D) (v w : V) (Q : VK), HRel K r h H → RV K r h H d v → RV K r h H e w → Wg K W (RRv K) (g d e h) r h H Q → rule v w H Q
section
variable {X : Cx} {W : Wish} {a b : Expr} {f f' : ME} {pos : Pos}
theorem pm_op {op : Operator} {rule : R2} {g : D → D → Cells → Res D} (ho : OpR X (binaryOp op) rule) (hs : OpS X.K W rule g) (ha : PM X W a f) (hb : PM X W b f') : PM X W (.BinOp a op b pos) (E2 g f f') := by
  refine ⟨(pe_op ho ha.pe hb.pe).imp fun σ H Q t => ?_⟩
  obtain ⟨r, h, m, x, w⟩ := tG.two (RR0 := RRv X.K) (RR1 := RRv X.K) stb_v t
  refine ⟨r, h, m, x, w.imp fun v H1 ⟨r1, h1, m1, x1, w1⟩ => ⟨r1, h1, m1, x1, w1.imp fun u H2 ⟨r2, h2, d, e, hr, rd, re, w2⟩ => hs r2 h2 H2 d e v u Q hr rd re w2⟩⟩
end
/-- lists and dicts made anew: frozen or a new live cell -/
def alloc (lv : Bool) (c : D) (h : Cells) : Res D := if lv = true then .ok (.ref h.length) (h ++ [(true, c)]) else .ok c h
section
variable {K : PySem.W.Frag} {W : Wish} {r : Rm} {h : Cells} {H : Hp} {Q : VK}
theorem HRel.notLive (hr : HRel K r h H) {p : Addr} (hp : H p = none) : ¬ LiveA r h p := fun l => by
  obtain ⟨o, z, _⟩ := hr.live l
  rw [hp] at z; cases z
theorem HRel.liveAt (hr : HRel K r h H) {p : Addr} : (r.push p).c[h.length]? = some p := by
  show (r.c ++ [p])[h.length]? = some p
  rw [List.getElem?_append_right (Nat.le_of_eq hr.len), hr.len, Nat.sub_self]; rfl
theorem alloc_lst {lv : Bool} {xs : List D} {vs : List V} (hr : HRel K r h H) (y : RVs K r h H xs vs) (w : Wg K W (RRv K) (alloc lv (.lst xs) h) r h H Q) : ∀ p, H p = none → Q (.ref p) (upd H p (.lst vs)) := by
  intro p hp
  cases lv with
  | false => exact w r _ _ (hr.new hp) (Post.new hr hp) (by simp only [RRv, RV]; exact ⟨p, vs, rfl, hr.notLive hp, upd_same, y.post (Post.new hr hp).p0⟩)
  | true =>
    unfold alloc at w
    rw [if_pos rfl] at w
    exact w (r.push p) _ _ (hr.snoc hp ⟨vs, upd_same, y.post (Post.live hr hp).p0⟩) (Post.live hr hp) (by simp only [RRv, RV]; exact ⟨p, rfl, hr.liveAt⟩)
theorem alloc_dK {lv : Bool} {ks : List Key} {xs : List D} {vs : List V} (hr : HRel K r h H) (y : RVs K r h H xs vs) (hk : ks.length = xs.length) (w : Wg K W (RRv K) (alloc lv (.dK ks xs) h) r h H Q) : ∀ p, H p = none → Q (.ref p) (upd H p (.dK (ks.zip vs))) := by
  intro p hp
  cases lv with
  | false => exact w r _ _ (hr.new hp) (Post.new hr hp) (by simp only [RRv, RV]; exact ⟨p, vs, rfl, hr.notLive hp, hk, .inl upd_same, y.post (Post.new hr hp).p0⟩)
  | true =>
    unfold alloc at w
    rw [if_pos rfl] at w
    exact w (r.push p) _ _ (hr.snoc hp ⟨vs, fun _ => upd_same, hk, .inl upd_same, y.post (Post.live hr hp).p0⟩) (Post.live hr hp) (by simp only [RRv, RV]; exact ⟨p, rfl, hr.liveAt⟩)
theorem alloc_dT {lv : Bool} {ks : List (List Key)} {xs : List D} {vs : List V} (hr : HRel K r h H) (y : RVs K r h H xs vs) (hk : ks.length = xs.length) (w : Wg K W (RRv K) (alloc lv (.dT ks xs) h) r h H Q) : ∀ p, H p = none → Q (.ref p) (upd H p (.dT (ks.zip vs))) := by
  intro p hp
  cases lv with
  | false => exact w r _ _ (hr.new hp) (Post.new hr hp) (by simp only [RRv, RV]; exact ⟨p, vs, rfl, hr.notLive hp, hk, .inl upd_same, y.post (Post.new hr hp).p0⟩)
  | true =>
    unfold alloc at w
    rw [if_pos rfl] at w
    exact w (r.push p) _ _ (hr.snoc hp ⟨vs, fun _ => upd_same, hk, .inl upd_same, y.post (Post.live hr hp).p0⟩) (Post.live hr hp) (by simp only [RRv, RV]; exact ⟨p, rfl, hr.liveAt⟩)
theorem new_tup {xs : List D} {vs : List V} (hr : HRel K r h H) (y : RVs K r h H xs vs) (w : Wg K W (RRv K) (.ok (.tup xs) h) r h H Q) : ∀ p, H p = none → Q (.ref p) (upd H p (.tup vs)) :=
  fun p hp => w r _ _ (hr.new hp) (Post.new hr hp) (by simp only [RRv, RV]; exact ⟨p, vs, rfl, upd_same, y.post (Post.new hr hp).p0⟩)
end
/-- the items of a list, wherever it is -/
def lstOf (h : Cells) : D → Option (List D)
  | .lst xs => some xs
  | .ref n => (match h[n]? with
    | some (_, .lst xs) => some xs
    | _ => none)
  | _ => none
def big : Nat := 1000000
theorem big_line : big < sizeLine := by rw [sizeLine_eq]; decide
theorem big_le {n : Nat} (h : n ≤ big) : n ≤ sizeLine := Nat.le_of_lt (Nat.lt_of_le_of_lt h big_line)
section
variable {K : PySem.W.Frag} {r : Rm} {h : Cells} {H : Hp}
theorem lstOf_ok (hr : HRel K r h H) {d : D} {v : V} {xs : List D} (rv : RV K r h H d v) (e : lstOf h d = some xs) : ∃ a vs, v = .ref a ∧ H a = some (.lst vs) ∧ RVs K r h H xs vs := by
  cases d with
  | lst ys =>
    have e : some ys = some xs := e
    cases e
    simp only [RV] at rv
    obtain ⟨a, vs, e1, _, e2, y⟩ := rv
    exact ⟨a, vs, e1, e2, y⟩
  | ref n =>
    simp only [lstOf] at e
    split at e
    · rename_i ys en
      cases e
      simp only [RV] at rv
      obtain ⟨a, rfl, ea⟩ := rv
      obtain ⟨_, a', ea', vs, e2, y⟩ := hr.cell n _ _ en
      rw [ea] at ea'; cases ea'
      exact ⟨a, vs, rfl, e2, y⟩
    · cases e
  | _ => cases e
theorem tup_ok {xs : List D} {v : V} (rv : RV K r h H (.tup xs) v) : ∃ a vs, v = .ref a ∧ H a = some (.tup vs) ∧ RVs K r h H xs vs := by simpa only [RV] using rv
theorem int_ok {i : Int} {v : V} (rv : RV K r h H (.int i) v) : v = .int i := by simpa only [RV] using rv
theorem str_ok {i : Str} {v : V} (rv : RV K r h H (.str i) v) : v = .str i := by simpa only [RV] using rv
theorem bl_ok {i : Bool} {v : V} (rv : RV K r h H (.bl i) v) : v = .bl i := by simpa only [RV] using rv
theorem rv_int {i : Int} : RV K r h H (.int i) (.int i) := by simp only [RV]
theorem rv_bl {i : Bool} : RV K r h H (.bl i) (.bl i) := by simp only [RV]
theorem rv_str {i : Str} : RV K r h H (.str i) (.str i) := by simp only [RV]
theorem rv_non : RV K r h H .non .non := by simp only [RV]
end
/-- + -/
def addD (lv : Bool) (x y : D) (h : Cells) : Res D := match x, y with
  | .int i, .int j => .ok (.int (i + j)) h
  | .str a, .str b => if a.length + b.length ≤ big then .ok (.str (a ++ b)) h else .stuck
  | .tup xs, .tup ys => if xs.length + ys.length ≤ big then .ok (.tup (xs ++ ys)) h else .stuck
  | x, y => match lstOf h x, lstOf h y with
    | some xs, some ys => if xs.length + ys.length ≤ big then alloc lv (.lst (xs ++ ys)) h else .stuck
    | _, _ => .stuck
def rAddAll (K : PySem.W.Frag) : R2 := fun x y H Q => (rI0 (fun i j => .int (i + j)) x y H Q ∨ (∃ i j, x = .str i ∧ y = .str j ∧ i.length + j.length ≤ sizeLine ∧ Q (.str (i ++ j)) H)) ∨ (rCatA K x y H Q ∨ rCat x y H Q)
theorem op_addAll {X : Cx} : OpR X (binaryOp .Add) (rAddAll X.K) := (op_add.or op_add_str).or (op_catA.or op_cat)
theorem ops_add {K : PySem.W.Frag} {W : Wish} (lv : Bool) : OpS K W (rAddAll K) (addD lv) := by
  intro r h H d e v w Q hr rd re wg
  unfold addD at wg
  split at wg
  · rw [int_ok rd, int_ok re]
    exact .inl (.inl ⟨_, _, rfl, rfl, wg r H _ hr .refl rv_int⟩)
  · rw [str_ok rd, str_ok re]
    split at wg
    · rename_i hz
      exact .inl (.inr ⟨_, _, rfl, rfl, big_le hz, wg r H _ hr .refl rv_str⟩)
    · exact wg.elim
  · split at wg
    · rename_i xs ys hz
      obtain ⟨a, vs, rfl, ea, y1⟩ := tup_ok rd
      obtain ⟨b, ws, rfl, eb, y2⟩ := tup_ok re
      have l1 := y1.length
      have l2 := y2.length
      refine .inr (.inl ⟨a, b, vs, ws, rfl, rfl, .of ea, .of eb, big_le (by omega), fun e => ?_, fun _ e => ?_, fun _ _ p hp => ?_⟩)
      · subst e
        have : xs = [] := List.eq_nil_of_length_eq_zero (by simpa using l1)
        subst this
        exact wg r H _ hr .refl (by simp only [RRv, RV]; exact ⟨b, ws, rfl, eb, y2⟩)
      · subst e
        have : ys = [] := List.eq_nil_of_length_eq_zero (by simpa using l2)
        subst this
        exact wg r H _ hr .refl (by simp only [RRv, RV, List.append_nil]; exact ⟨a, vs, rfl, ea, y1⟩)
      · exact new_tup hr (y1.append y2) wg p hp
    · exact wg.elim
  · split at wg
    · rename_i xs ys ex ey
      split at wg
      · rename_i hz
        obtain ⟨a, vs, rfl, ea, y1⟩ := lstOf_ok hr rd ex
        obtain ⟨b, ws, rfl, eb, y2⟩ := lstOf_ok hr re ey
        have l1 := y1.length
        have l2 := y2.length
        exact .inr (.inr ⟨a, b, vs, ws, rfl, rfl, ea, eb, big_le (by omega), alloc_lst hr (y1.append y2) wg⟩)
      · exact wg.elim
    · exact wg.elim
/-- - -/
def subD (x y : D) (h : Cells) : Res D := match x, y with
  | .int i, .int j => .ok (.int (i - j)) h
  | _, _ => .stuck
theorem ops_sub {K : PySem.W.Frag} {W : Wish} : OpS K W (rI0 fun i j => .int (i - j)) subD := by
  intro r h H d e v w Q hr rd re wg
  unfold subD at wg
  split at wg
  · rw [int_ok rd, int_ok re]
    exact ⟨_, _, rfl, rfl, wg r H _ hr .refl rv_int⟩
  · exact wg.elim
/-- numbers of at most so many bits, told cheaply -/
def sml (i : Int) : Bool := decide (-(2 ^ 64) < i) && decide (i < 2 ^ 64)
def fewBits (i : Int) : Prop := i.natAbs < 2 ^ 499999
/-- *: one factor below 2^64, or a list and a number -/
def mulD (lv : Bool) (x y : D) (h : Cells) : Res D := match x, y with
  | .int i, .int j => if sml i = true ∨ sml j = true then .ok (.int (i * j)) h else .stuck
  | x, .int k => (match lstOf h x with
    | some xs => if xs.length * k.toNat ≤ big ∧ k ≤ big ∧ -big ≤ k then alloc lv (.lst (List.replicate k.toNat xs).flatten) h else .stuck
    | none => .stuck)
  | _, _ => .stuck
theorem rvs_rep {K : PySem.W.Frag} {r : Rm} {h : Cells} {H : Hp} {xs : List D} {vs : List V} (y : RVs K r h H xs vs) : ∀ k : Nat, RVs K r h H (List.replicate k xs).flatten (List.replicate k vs).flatten
  | 0 => by simp only [List.replicate_zero, List.flatten_nil]; exact RVs.nil
  | k + 1 => by simp only [List.replicate_succ, List.flatten_cons]; exact y.append (rvs_rep y k)
theorem ops_mul {K : PySem.W.Frag} {W : Wish} (lv : Bool) : OpS K W (fun x y H Q => rI CMul (fun i j => .int (i * j)) x y H Q ∨ rRep x y H Q) (mulD lv) := by
  intro r h H d e v w Q hr rd re wg
  unfold mulD at wg
  split at wg
  · rw [int_ok rd, int_ok re]
    split at wg
    · rename_i hz
      refine .inl ⟨_, _, rfl, rfl, ?_, wg r H _ hr .refl rv_int⟩
      unfold sml at hz
      simp only [Bool.and_eq_true, decide_eq_true_eq] at hz
      exact hz
    · exact wg.elim
  · split at wg
    · rename_i xs ex
      split at wg
      · rename_i k _ _ hz
        obtain ⟨a, vs, rfl, ea, y1⟩ := lstOf_ok hr rd ex
        rw [int_ok re]
        have l1 := y1.length
        have hb : (big : Int) = 1000000 := rfl
        refine .inr ⟨a, k, vs, rfl, rfl, ea, ?_, ?_, big_le (by rw [← l1]; exact hz.1), ?_⟩
        · have := hz.2.2; rw [hb] at this; omega
        · have := hz.2.1; rw [hb] at this; omega
        · exact alloc_lst hr (rvs_rep y1 _) wg
      · exact wg.elim
    · exact wg.elim
  · exact wg.elim
/-- a divisor from 1 on below 2^64 -/
def posD (j : Int) : Bool := decide (0 < j) && decide (j < 2 ^ 64)
def divD (x y : D) (h : Cells) : Res D := match x, y with
  | .int i, .int j => if posD j = true then .ok (.int (i / j)) h else .stuck
  | _, _ => .stuck
theorem ops_div {K : PySem.W.Frag} {W : Wish} : OpS K W (rI CDivW fun i j => .int (i / j)) divD := by
  intro r h H d e v w Q hr rd re wg
  unfold divD at wg
  split at wg
  · rw [int_ok rd, int_ok re]
    split at wg
    · rename_i i j hz
      unfold posD at hz
      simp only [Bool.and_eq_true, decide_eq_true_eq] at hz
      exact ⟨_, _, rfl, rfl, wide_div (b := 64) hz.1 (by omega) (by decide) (by decide), wg r H _ hr .refl rv_int⟩
    · exact wg.elim
  · exact wg.elim
def modD (x y : D) (h : Cells) : Res D := match x, y with
  | .int i, .int j => if 0 < j then .ok (.int (i % j)) h else .stuck
  | _, _ => .stuck
theorem ops_mod {K : PySem.W.Frag} {W : Wish} : OpS K W (rI (fun _ j => 0 < j) fun i j => .int (i % j)) modD := by
  intro r h H d e v w Q hr rd re wg
  unfold modD at wg
  split at wg
  · rw [int_ok rd, int_ok re]
    split at wg
    · rename_i i j hz
      exact ⟨_, _, rfl, rfl, hz, wg r H _ hr .refl rv_int⟩
    · exact wg.elim
  · exact wg.elim
def powD (x y : D) (h : Cells) : Res D := match x, y with
  | .int i, .int j => if 0 ≤ j ∧ j ≤ 1000 ∧ sml i = true then .ok (.int (i ^ j.toNat)) h else .stuck
  | _, _ => .stuck
theorem ops_pow {K : PySem.W.Frag} {W : Wish} : OpS K W (rI CPow fun i j => .int (i ^ j.toNat)) powD := by
  intro r h H d e v w Q hr rd re wg
  unfold powD at wg
  split at wg
  · rw [int_ok rd, int_ok re]
    split at wg
    · rename_i i j hz
      refine ⟨_, _, rfl, rfl, ⟨hz.1, by omega, ?_⟩, wg r H _ hr .refl rv_int⟩
      have := hz.2.2
      unfold sml at this
      simp only [Bool.and_eq_true, decide_eq_true_eq] at this
      omega
    · exact wg.elim
  · exact wg.elim
def andD (x y : D) (h : Cells) : Res D := match x, y with
  | .int i, .int j => .ok (.int (Builtin.bitAnd i j)) h
  | _, _ => .stuck
theorem ops_and {K : PySem.W.Frag} {W : Wish} : OpS K W (rI0 fun i j => .int (Builtin.bitAnd i j)) andD := by
  intro r h H d e v w Q hr rd re wg
  unfold andD at wg
  split at wg
  · rw [int_ok rd, int_ok re]
    exact ⟨_, _, rfl, rfl, wg r H _ hr .refl rv_int⟩
  · exact wg.elim
section
variable {X : Cx} {W : Wish} {a b : Expr} {f f' : ME} {pos : Pos}
theorem pm_add (lv : Bool) (ha : PM X W a f) (hb : PM X W b f') : PM X W (.BinOp a .Add b pos) (E2 (addD lv) f f') := pm_op op_addAll (ops_add lv) ha hb
theorem pm_sub (ha : PM X W a f) (hb : PM X W b f') : PM X W (.BinOp a .Sub b pos) (E2 subD f f') := pm_op op_sub ops_sub ha hb
theorem pm_mul (lv : Bool) (ha : PM X W a f) (hb : PM X W b f') : PM X W (.BinOp a .Mult b pos) (E2 (mulD lv) f f') := pm_op (op_mul.or op_rep) (ops_mul lv) ha hb
theorem pm_div (ha : PM X W a f) (hb : PM X W b f') : PM X W (.BinOp a .FloorDiv b pos) (E2 divD f f') := pm_op op_fdivW ops_div ha hb
theorem pm_mod (ha : PM X W a f) (hb : PM X W b f') : PM X W (.BinOp a .Mod b pos) (E2 modD f f') := pm_op op_mod ops_mod ha hb
theorem pm_pow (ha : PM X W a f) (hb : PM X W b f') : PM X W (.BinOp a .Pow b pos) (E2 powD f f') := pm_op op_pow ops_pow ha hb
theorem pm_band (ha : PM X W a f) (hb : PM X W b f') : PM X W (.BinOp a .BitAnd b pos) (E2 andD f f') := pm_op op_and ops_and ha hb
/-- -x -/
def negD (x : D) (h : Cells) : Res D := match x with
  | .int i => .ok (.int (-i)) h
  | _ => .stuck
def E1 (g : D → Cells → Res D) (f : ME) : ME := fun m h => (f m h).bind g
theorem pm_neg (ha : PM X W a f) : PM X W (.UnaryOp .USub a pos) (E1 negD f) := by
  refine ⟨(pe_un un_neg ha.pe).imp fun σ H Q t => ?_⟩
  obtain ⟨r, h, m, x, w⟩ := tG.one (RR0 := RRv X.K) t
  refine ⟨r, h, m, x, w.imp fun v H1 ⟨r1, h1, d, hr, rd, w1⟩ => ?_⟩
  unfold negD at w1
  split at w1
  · rw [int_ok rd]
    exact ⟨_, rfl, w1 r1 H1 _ hr .refl rv_int⟩
  · exact w1.elim
end

/-! ### tests and truth values -/
/-- a test's value -/
def E_T (f : MT) : ME := fun m h => (f m h).bind fun b h1 => .ok (.bl b) h1
/-- a value that is a bool, as a test -/
def T_E (f : ME) : MT := fun m h => (f m h).bind fun d h1 => match d with
  | .bl b => .ok b h1
  | _ => .stuck
def T_not (f : MT) : MT := fun m h => (f m h).bind fun b h1 => .ok (!b) h1
def T_and (f g : MT) : MT := fun m h => (f m h).bind fun b h1 => if b = true then g m h1 else .ok false h1
def T_or (f g : MT) : MT := fun m h => (f m h).bind fun b h1 => if b = true then .ok true h1 else g m h1
def E_not (f : ME) : ME := E_T (T_not (T_E f))
/-- and, or as values: all but the last are bools -/
def E_and (f g : ME) : ME := fun m h => (T_E f m h).bind fun b h1 => if b = true then g m h1 else .ok (.bl false) h1
def E_or (f g : ME) : ME := fun m h => (T_E f m h).bind fun b h1 => if b = true then .ok (.bl true) h1 else g m h1
def E_if (c : MT) (f g : ME) : ME := fun m h => (c m h).bind fun b h1 => if b = true then f m h1 else g m h1
section
variable {X : Cx} {W : Wish} {a b c : Expr} {f f' : ME} {t u : MT} {pos : Pos} {rest : List Expr}
theorem pmt_val (ha : PM X W a f) (he : ∀ whole, isTrue a X.env whole = (do let v ← whole; standAt a.pos; holding [v] (truthy v)) := by intro _; rfl) : PMT X W a (T_E f) := by
  refine ⟨(pt_val ha.pe he).imp fun σ H Q t => ?_⟩
  obtain ⟨r, h, m, x, w⟩ := tG.one (RR0 := RRv X.K) t
  refine ⟨r, h, m, x, w.imp fun v H1 ⟨r1, h1, d, hr, rd, w1⟩ => ?_⟩
  cases d with
  | bl b => rw [bl_ok rd]; exact ⟨b, rfl, w1 r1 H1 b hr .refl rfl⟩
  | _ => exact w1.elim
theorem pmt_not (ha : PMT X W a t) : PMT X W (.UnaryOp .Not a pos) (T_not t) := by
  refine ⟨(pt_not ha.pt).imp fun σ H Q t => ?_⟩
  obtain ⟨r, h, m, x, w⟩ := tG.one (RR0 := RRe) t
  refine ⟨r, h, m, x, w.imp fun v H1 ⟨r1, h1, d, hr, rd, w1⟩ => ?_⟩
  cases rd
  exact w1 r1 H1 _ hr .refl rfl
theorem pmw_and1 (ha : PMT X W a t) : PMW X W (.BoolOp .And [a] pos) t := ⟨pw_and1 ha.pt⟩
theorem pmw_or1 (ha : PMT X W a t) : PMW X W (.BoolOp .Or [a] pos) t := ⟨pw_or1 ha.pt⟩
theorem pmw_and (ha : PMT X W a t) (hb : PMW X W (.BoolOp .And (b :: rest) pos) u) : PMW X W (.BoolOp .And (a :: b :: rest) pos) (T_and t u) := by
  refine ⟨(pw_and ha.pt hb.pw).imp fun σ H Q w => ?_⟩
  obtain ⟨r, h, m, x, w⟩ := tG.ite (g' := fun _ h => .ok false h) w
  refine ⟨r, h, m, x, w.imp fun c H1 w1 => ?_⟩
  cases c with
  | true => exact w1
  | false =>
    obtain ⟨r1, h1, m1, x1, w2⟩ := w1
    exact w2 r1 H1 false x1.hr .refl rfl
theorem pmw_or (ha : PMT X W a t) (hb : PMW X W (.BoolOp .Or (b :: rest) pos) u) : PMW X W (.BoolOp .Or (a :: b :: rest) pos) (T_or t u) := by
  refine ⟨(pw_or ha.pt hb.pw).imp fun σ H Q w => ?_⟩
  obtain ⟨r, h, m, x, w⟩ := tG.ite (g := fun _ h => .ok true h) w
  refine ⟨r, h, m, x, w.imp fun c H1 w1 => ?_⟩
  cases c with
  | false => exact w1
  | true =>
    obtain ⟨r1, h1, m1, x1, w2⟩ := w1
    exact w2 r1 H1 true x1.hr .refl rfl
theorem PMW.tt (h : PMW X W a t) : PMT X W a t := ⟨h.pw.pt⟩
theorem pm_one {op} (h : PM X W a f) : PM X W (.BoolOp op [a] pos) f := ⟨pe_one h.pe⟩
theorem pm_and (ha : PM X W a f) (hb : PM X W (.BoolOp .And (b :: rest) pos) f') : PM X W (.BoolOp .And (a :: b :: rest) pos) (E_and f f') := by
  refine ⟨(pe_and ha.pe hb.pe).imp fun σ H Q w => ?_⟩
  obtain ⟨r, h, m, x, w⟩ := w
  unfold E_and T_E at w
  refine ⟨r, h, m, x, ?_⟩
  cases q : f m h with
  | stuck => rw [q] at w; exact w.elim
  | exc y h' => rw [q] at w; exact w
  | ok d h' =>
    rw [q] at w
    intro r1 H1 v hr p rv
    cases d with
    | bl c =>
      refine ⟨c, bl_ok rv, ?_⟩
      have w : Wg X.K W (RRv X.K) (if c = true then f' m h' else .ok (.bl false) h') r h H Q := w
      cases c with
      | true => exact ⟨r1, h', m, x.post p hr, Wg.post p w⟩
      | false => exact w r1 H1 _ hr p rv_bl
    | _ => exact w.elim
theorem pm_or (ha : PM X W a f) (hb : PM X W (.BoolOp .Or (b :: rest) pos) f') : PM X W (.BoolOp .Or (a :: b :: rest) pos) (E_or f f') := by
  refine ⟨(pe_or ha.pe hb.pe).imp fun σ H Q w => ?_⟩
  obtain ⟨r, h, m, x, w⟩ := w
  unfold E_or T_E at w
  refine ⟨r, h, m, x, ?_⟩
  cases q : f m h with
  | stuck => rw [q] at w; exact w.elim
  | exc y h' => rw [q] at w; exact w
  | ok d h' =>
    rw [q] at w
    intro r1 H1 v hr p rv
    cases d with
    | bl c =>
      refine ⟨c, bl_ok rv, ?_⟩
      have w : Wg X.K W (RRv X.K) (if c = true then .ok (.bl true) h' else f' m h') r h H Q := w
      cases c with
      | false => exact ⟨r1, h', m, x.post p hr, Wg.post p w⟩
      | true => exact w r1 H1 _ hr p rv_bl
    | _ => exact w.elim
theorem pm_not (ha : PM X W a f) : PM X W (.UnaryOp .Not a pos) (E_not f) := by
  refine ⟨(pe_not ha.pe).imp fun σ H Q w => ?_⟩
  obtain ⟨r, h, m, x, w⟩ := w
  unfold E_not E_T T_not T_E at w
  refine ⟨r, h, m, x, ?_⟩
  cases q : f m h with
  | stuck => rw [q] at w; exact w.elim
  | exc y h' => rw [q] at w; exact w
  | ok d h' =>
    rw [q] at w
    intro r1 H1 v hr p rv
    cases d with
    | bl c => exact ⟨c, bl_ok rv, w r1 H1 _ hr p rv_bl⟩
    | _ => exact w.elim
theorem pm_ifExp (hc : PMT X W c t) (ha : PM X W a f) (hb : PM X W b f') : PM X W (.IfExp c a b pos) (E_if t f f') :=
  ⟨(pe_ifExp hc.pt ha.pe hb.pe).imp fun σ H Q w => tG.ite w⟩
end
/-! ### comparisons -/
/-- rule: what is asked for the answer k -/
def CmpS (K : PySem.W.Frag) (rule : R2) (g : Cells → D → D → Option Bool) : Prop :=
  ∀ (r : Rm) (h : Cells) (H : Hp) (d e : D) (v w : V) (k : Bool) (Q : VK), HRel K r h H → RV K r h H d v → RV K r h H e w → g h d e = some k → Q (.bl k) H → rule v w H Q
def ofOpt {α : Type} (o : Option α) (h : Cells) : Res α := match o with
  | some a => .ok a h
  | none => .stuck
@[simp] theorem ofOpt_some {α : Type} (a : α) (h : Cells) : ofOpt (some a) h = .ok a h := rfl
def T_cmp (g : Cells → D → D → Option Bool) (f f' : ME) : MT := fun m h => (f m h).bind fun x h1 => (f' m h1).bind fun y h2 => ofOpt (g h2 x y) h2
/-- a < b < c -/
def E_chain (g g' : Cells → D → D → Option Bool) (f f' f'' : ME) : ME := fun m h => (f m h).bind fun x h1 => (f' m h1).bind fun y h2 => (ofOpt (g h2 x y) h2).bind fun k h3 =>
  if k = true then (f'' m h3).bind fun z h4 => (ofOpt (g' h4 y z) h4).bind fun k h5 => .ok (.bl k) h5 else .ok (.bl false) h3
section
variable {X : Cx} {W : Wish} {a b c : Expr} {f f' f'' : ME} {pos : Pos} {op op' : CmpOp} {rule rule' : R2} {g g' : Cells → D → D → Option Bool}
theorem pm_cmp (ho : OpR X (compareOp op) rule) (hs : CmpS X.K rule g) (ha : PM X W a f) (hb : PM X W b f') (hm : behindInMarks op b = false) : PM X W (.Compare a [op] [b] pos) (E_T (T_cmp g f f')) := by
  refine ⟨(pe_cmpR ho ha.pe hb.pe hm).imp fun σ H Q t => ?_⟩
  have e : E_T (T_cmp g f f') = fun m h => (f m h).bind fun x h1 => (f' m h1).bind fun y h2 => (ofOpt (g h2 x y) h2).bind fun b h => .ok (.bl b) h := by
    funext m h; simp only [E_T, T_cmp, Res.bind_assoc]
  rw [e] at t
  obtain ⟨r, h, m, x, w⟩ := tG.two (RR0 := RRv X.K) (RR1 := RRv X.K) stb_v t
  refine ⟨r, h, m, x, w.imp fun v H1 ⟨r1, h1, m1, x1, w1⟩ => ⟨r1, h1, m1, x1, w1.imp fun u H2 ⟨r2, h2, d, e, hr, rd, re, w2⟩ => ?_⟩⟩
  cases q : g h2 d e with
  | none => rw [q] at w2; exact w2.elim
  | some k =>
    rw [q] at w2
    exact hs r2 h2 H2 d e v u k Q hr rd re q (w2 r2 H2 _ hr .refl rv_bl)
theorem pmt_cmp (ho : OpR X (compareOp op) rule) (hs : CmpS X.K rule g) (ha : PM X W a f) (hb : PM X W b f') (hm : behindInMarks op b = false) : PMT X W (.Compare a [op] [b] pos) (T_cmp g f f') := by
  refine ⟨(pt_cmpR ho ha.pe hb.pe hm).imp fun σ H Q t => ?_⟩
  obtain ⟨r, h, m, x, w⟩ := tG.two (RR0 := RRv X.K) (RR1 := RRv X.K) stb_v t
  refine ⟨r, h, m, x, w.imp fun v H1 ⟨r1, h1, m1, x1, w1⟩ => ⟨r1, h1, m1, x1, w1.imp fun u H2 ⟨r2, h2, d, e, hr, rd, re, w2⟩ => ?_⟩⟩
  cases q : g h2 d e with
  | none => rw [q] at w2; exact w2.elim
  | some k =>
    rw [q] at w2
    exact hs r2 h2 H2 d e v u k _ hr rd re q ⟨k, rfl, w2 r2 H2 _ hr .refl rfl⟩
end
end Mi

/-! Mi3: equality, order, in, subscripts, slices, displays. -/
namespace Mi
open PySem PySem.Spec PyProof.Rows L2

/-! ### equality of data -/
/-! data of at most this depth: no cells, no dicts -/
mutual
def okD : Nat → D → Bool
  | _, .non => true
  | _, .bl _ => true
  | _, .int _ => true
  | _, .str x => PyData.strOk x
  | n, .tup xs => decide (0 < n) && okDs (n - 1) xs
  | n, .lst xs => decide (0 < n) && okDs (n - 1) xs
  | _, .scr _ => false
  | _, .dK _ _ => false
  | _, .dT _ _ => false
  | _, .ref _ => false
def okDs : Nat → List D → Bool
  | _, [] => true
  | n, x :: r => okD n x && okDs n r
end
mutual
def toP : D → PyData
  | .non => .none
  | .bl b => .bool b
  | .int i => .int i
  | .str x => .str x
  | .tup xs => .tuple (toPs xs)
  | .lst xs => .list (toPs xs)
  | .scr _ => .none
  | .dK _ _ => .none
  | .dT _ _ => .none
  | .ref _ => .none
def toPs : List D → List PyData
  | [] => []
  | x :: r => toP x :: toPs r
end
mutual
def eqD : D → D → Bool
  | .non, .non => true
  | .bl a, .bl b => a == b
  | .bl a, .int j => (if a then 1 else 0) == j
  | .int i, .bl b => i == (if b then 1 else 0)
  | .int i, .int j => i == j
  | .str x, .str y => x == y
  | .lst xs, .lst ys => eqDs xs ys
  | .tup xs, .tup ys => eqDs xs ys
  | _, _ => false
def eqDs : List D → List D → Bool
  | [], [] => true
  | x :: xs, y :: ys => eqD x y && eqDs xs ys
  | _, _ => false
end
mutual
theorem okD_lay : ∀ {n : Nat} {d : D}, okD n d = true → (toP d).canLay0 = true ∧ (toP d).depth ≤ n
  | _, .non, _ => ⟨by simp [toP, PyData.canLay0], by simp [toP, PyData.depth]⟩
  | _, .bl _, _ => ⟨by simp [toP, PyData.canLay0], by simp [toP, PyData.depth]⟩
  | _, .int _, _ => ⟨by simp [toP, PyData.canLay0], by simp [toP, PyData.depth]⟩
  | _, .str x, h => ⟨by simpa [toP, PyData.canLay0, okD] using h, by simp [toP, PyData.depth]⟩
  | n, .tup xs, h => by
    simp only [okD, Bool.and_eq_true, decide_eq_true_eq] at h
    have q := okDs_lay h.2
    simp only [toP, PyData.canLay0, PyData.depth]
    exact ⟨q.1, by omega⟩
  | n, .lst xs, h => by
    simp only [okD, Bool.and_eq_true, decide_eq_true_eq] at h
    have q := okDs_lay h.2
    simp only [toP, PyData.canLay0, PyData.depth]
    exact ⟨q.1, by omega⟩
  | _, .scr _, h => by simp [okD] at h
  | _, .dK _ _, h => by simp [okD] at h
  | _, .dT _ _, h => by simp [okD] at h
  | _, .ref _, h => by simp [okD] at h
theorem okDs_lay : ∀ {n : Nat} {ds : List D}, okDs n ds = true → PyData.canLayAll0 (toPs ds) = true ∧ PyData.depthAll (toPs ds) ≤ n
  | _, [], _ => ⟨by simp [toPs, PyData.canLayAll0], by simp [toPs, PyData.depthAll]⟩
  | n, x :: r, h => by
    simp only [okDs, Bool.and_eq_true] at h
    have q1 := okD_lay h.1
    have q2 := okDs_lay h.2
    simp only [toPs, PyData.canLayAll0, PyData.depthAll, Bool.and_eq_true]
    exact ⟨⟨q1.1, q2.1⟩, by omega⟩
end
mutual
theorem eqv_eqD : ∀ {n k : Nat} {d e : D}, okD n d = true → okD k e = true → PyData.eqv (toP d) (toP e) = eqD d e
  | _, _, .non, e, _, h => by cases e <;> first | (simp [toP, PyData.eqv, eqD]; done) | (simp [okD] at h)
  | _, _, .bl _, e, _, h => by cases e <;> first | (simp [toP, PyData.eqv, eqD]; done) | (simp [okD] at h)
  | _, _, .int _, e, _, h => by cases e <;> first | (simp [toP, PyData.eqv, eqD]; done) | (simp [okD] at h)
  | _, _, .str _, e, _, h => by cases e <;> first | (simp [toP, PyData.eqv, eqD]; done) | (simp [okD] at h)
  | n, k, .tup xs, e, g, h => by
    cases e with
    | tup ys =>
      simp only [okD, Bool.and_eq_true] at g h
      simp only [toP, PyData.eqv, eqD]
      exact eqv_eqDs g.2 h.2
    | _ => first | (simp [toP, PyData.eqv, eqD]; done) | (simp [okD] at h)
  | n, k, .lst xs, e, g, h => by
    cases e with
    | lst ys =>
      simp only [okD, Bool.and_eq_true] at g h
      simp only [toP, PyData.eqv, eqD]
      exact eqv_eqDs g.2 h.2
    | _ => first | (simp [toP, PyData.eqv, eqD]; done) | (simp [okD] at h)
  | _, _, .scr _, _, g, _ => by simp [okD] at g
  | _, _, .dK _ _, _, g, _ => by simp [okD] at g
  | _, _, .dT _ _, _, g, _ => by simp [okD] at g
  | _, _, .ref _, _, g, _ => by simp [okD] at g
theorem eqv_eqDs : ∀ {n k : Nat} {ds es : List D}, okDs n ds = true → okDs k es = true → PyData.eqvAll (toPs ds) (toPs es) = eqDs ds es
  | _, _, [], [], _, _ => by simp [toPs, PyData.eqvAll, eqDs]
  | _, _, [], _ :: _, _, _ => by simp [toPs, PyData.eqvAll, eqDs]
  | _, _, _ :: _, [], _, _ => by simp [toPs, PyData.eqvAll, eqDs]
  | _, _, x :: xs, y :: ys, g, h => by
    simp only [okDs, Bool.and_eq_true] at g h
    simp only [toPs, PyData.eqvAll, eqDs]
    rw [eqv_eqD g.1 h.1, eqv_eqDs g.2 h.2]
end
section
variable {K : PySem.W.Frag} {r : Rm} {h : Cells} {H : Hp}
mutual
theorem dp_of : ∀ {n : Nat} {d : D} {v : V}, okD n d = true → RV K r h H d v → Dp K H v (toP d)
  | _, .non, _, _, x => by simp only [RV] at x; subst x; exact .non
  | _, .bl _, _, _, x => by simp only [RV] at x; subst x; exact .bl _
  | _, .int _, _, _, x => by simp only [RV] at x; subst x; exact .int _
  | _, .str _, _, _, x => by simp only [RV] at x; subst x; exact .str _
  | _, .tup xs, _, g, x => by
    simp only [RV] at x
    simp only [okD, Bool.and_eq_true] at g
    obtain ⟨a, vs, rfl, e, y⟩ := x
    exact .tup (.of e) (dps_of g.2 y)
  | _, .lst xs, _, g, x => by
    simp only [RV] at x
    simp only [okD, Bool.and_eq_true] at g
    obtain ⟨a, vs, rfl, _, e, y⟩ := x
    exact .lst (.of e) (dps_of g.2 y)
  | _, .scr _, _, g, _ => by simp [okD] at g
  | _, .dK _ _, _, g, _ => by simp [okD] at g
  | _, .dT _ _, _, g, _ => by simp [okD] at g
  | _, .ref _, _, g, _ => by simp [okD] at g
theorem dps_of : ∀ {n : Nat} {ds : List D} {vs : List V}, okDs n ds = true → RVs K r h H ds vs → DpAll K H vs (toPs ds)
  | _, [], _, _, x => by rw [x.of_nil]; exact .nil
  | _, d :: ds, _, g, x => by
    obtain ⟨v, w, rfl, a, b⟩ := x.of_cons
    simp only [okDs, Bool.and_eq_true] at g
    exact .cons (dp_of g.1 a) (dps_of g.2 b)
end
end
/-- a list that stands in a cell as a tree -/
def der (h : Cells) (d : D) : D := match d with
  | .ref n => (match h[n]? with
    | some (_, .lst xs) => .lst xs
    | _ => .ref n)
  | d => d
@[simp] theorem der_int (h : Cells) (i : Int) : der h (.int i) = .int i := rfl
@[simp] theorem der_str (h : Cells) (i : Str) : der h (.str i) = .str i := rfl
@[simp] theorem der_bl (h : Cells) (i : Bool) : der h (.bl i) = .bl i := rfl
@[simp] theorem der_non (h : Cells) : der h .non = .non := rfl
@[simp] theorem der_tup (h : Cells) (xs : List D) : der h (.tup xs) = .tup xs := rfl
@[simp] theorem der_lst (h : Cells) (xs : List D) : der h (.lst xs) = .lst xs := rfl
section
variable {K : PySem.W.Frag} {r : Rm} {h : Cells} {H : Hp}
theorem dp_der (hr : HRel K r h H) {n : Nat} {d : D} {v : V} (g : okD n (der h d) = true) (x : RV K r h H d v) : Dp K H v (toP (der h d)) := by
  cases d with
  | ref k =>
    simp only [der] at g ⊢
    split at g
    · rename_i b ys en
      simp only [RV] at x
      obtain ⟨a, rfl, ea⟩ := x
      obtain ⟨_, a', ea', vs, e2, y⟩ := hr.cell k _ _ en
      rw [ea] at ea'; cases ea'
      simp only [okD, Bool.and_eq_true] at g
      exact .lst (.of e2) (dps_of g.2 y)
    · simp [okD] at g
  | _ => exact dp_of g x
end
def eqC (h : Cells) (x y : D) : Option Bool := if okD 60 (der h x) = true ∧ okD 60 (der h y) = true then some (eqD (der h x) (der h y)) else none
def neC (h : Cells) (x y : D) : Option Bool := (eqC h x y).map (!·)
theorem shaped_of {d : D} (g : okD 60 d = true) : SeqAt.shaped (toP d) = true := by
  have q := okD_lay g
  unfold SeqAt.shaped
  rw [q.1, decide_eq_true (by omega)]; rfl
theorem cmp_eq {K : PySem.W.Frag} : CmpS K (rEqD K) eqC := by
  intro r h H d e v w k Q hr rd re e1 q
  unfold eqC at e1
  split at e1
  · rename_i g
    cases e1
    refine ⟨_, _, dp_der hr g.1 rd, dp_der hr g.2 re, shaped_of g.1, shaped_of g.2, ?_⟩
    rw [eqv_eqD g.1 g.2]; exact q
  · cases e1
theorem cmp_ne {K : PySem.W.Frag} : CmpS K (rNeD K) neC := by
  intro r h H d e v w k Q hr rd re e1 q
  unfold neC eqC at e1
  split at e1
  · rename_i g
    cases e1
    refine ⟨_, _, dp_der hr g.1 rd, dp_der hr g.2 re, shaped_of g.1, shaped_of g.2, ?_⟩
    rw [eqv_eqD g.1 g.2]; exact q
  · cases e1
/-! ### order -/
/-- the ints of a flat tuple -/
def intsOf : List D → Option (List Int)
  | [] => some []
  | .int i :: r => (intsOf r).map (i :: ·)
  | _ => none
def ltI (p : Int → Int → Bool) (_ : Cells) (x y : D) : Option Bool := match x, y with
  | .int i, .int j => some (p i j)
  | _, _ => none
def ltC (_ : Cells) (x y : D) : Option Bool := match x, y with
  | .int i, .int j => some (decide (i < j))
  | .tup xs, .tup ys => (match intsOf xs, intsOf ys with
    | some ns, some ms => some (HT.lexLt ns ms)
    | _, _ => none)
  | _, _ => none
theorem intsOf_ok {K : PySem.W.Frag} {r : Rm} {h : Cells} {H : Hp} : ∀ {xs : List D} {vs : List V} {ns : List Int}, RVs K r h H xs vs → intsOf xs = some ns → vs = ns.map V.int
  | [], _, _, x, e => by cases e; exact x.of_nil
  | d :: ds, _, ns, x, e => by
    obtain ⟨v, w, rfl, a, b⟩ := x.of_cons
    cases d with
    | int i =>
      simp only [intsOf, Option.map_eq_some_iff] at e
      obtain ⟨ms, e1, rfl⟩ := e
      rw [int_ok a, intsOf_ok b e1]; rfl
    | _ => simp [intsOf] at e
theorem cmp_int {K : PySem.W.Frag} {p : Int → Int → Bool} : CmpS K (rI0 fun i j => .bl (p i j)) (ltI p) := by
  intro r h H d e v w k Q hr rd re e1 q
  unfold ltI at e1
  split at e1
  · cases e1
    rw [int_ok rd, int_ok re]
    exact ⟨_, _, rfl, rfl, q⟩
  · cases e1
theorem cmp_lt {K : PySem.W.Frag} : CmpS K (fun x y H Q => rI0 (fun i j => .bl (decide (i < j))) x y H Q ∨ rLtT K x y H Q) ltC := by
  intro r h H d e v w k Q hr rd re e1 q
  unfold ltC at e1
  split at e1
  · cases e1
    rw [int_ok rd, int_ok re]
    exact .inl ⟨_, _, rfl, rfl, q⟩
  · split at e1
    · rename_i ns ms x1 x2
      cases e1
      obtain ⟨a, vs, rfl, ea, y1⟩ := tup_ok rd
      obtain ⟨b, ws, rfl, eb, y2⟩ := tup_ok re
      have z1 := intsOf_ok y1 x1
      have z2 := intsOf_ok y2 x2
      subst z1 z2
      exact .inr ⟨a, b, ns, ms, rfl, rfl, .of ea, .of eb, q⟩
    · cases e1
  · cases e1
/-! ### is None, is True, is False -/
def isC (_ : Cells) (x y : D) : Option Bool := match x, y with
  | .non, .non => some true
  | .bl a, .bl b => some (decide (a = b))
  | .ref _, _ => none
  | _, .ref _ => none
  | .non, _ => some false
  | _, .non => some false
  | .bl _, .int _ => some false
  | .bl _, .str _ => some false
  | .bl _, .tup _ => some false
  | .bl _, .lst _ => some false
  | .int _, .bl _ => some false
  | .str _, .bl _ => some false
  | .tup _, .bl _ => some false
  | .lst _, .bl _ => some false
  | _, _ => none
def isNotC (h : Cells) (x y : D) : Option Bool := (isC h x y).map (!·)
def rIsAll : R2 := fun x y H Q => (y = .non ∧ Q (.bl (decide (x = .non))) H) ∨ (∃ b, y = .bl b ∧ Q (.bl (decide (x = y))) H)
theorem op_isAll {X : Cx} : OpR X (compareOp .Is) rIsAll := by
  intro pins s σ H x y v u Q I rx ry h
  rcases h with h | ⟨b, rfl, q⟩
  · exact op_isN pins s σ H x y v u Q I rx ry h
  · obtain rfl : u = Value.bool b := ry
    by_cases e : x = .bl b
    · subst e
      obtain rfl : v = Value.bool b := rx
      exact wpAny_is_self rfl ⟨.bl true, H, I, rfl, by simpa using q⟩
    · have hne : v ≠ Value.bool b := fun z => by
        subst z
        exact e (RelV.inj rx (show RelV (.bl b) (Value.bool b) from rfl))
      refine wpAny_is_other ?_ hne ⟨.bl false, H, I, rfl, by simpa [e] using q⟩
      all_goals first
        | rfl
        | (cases x with
          | non => cases rx; rfl
          | bl c => cases rx; rfl
          | int i => obtain ⟨t, rfl⟩ := rx; rfl
          | str i => obtain ⟨t, rfl⟩ := rx; rfl
          | byt i => obtain ⟨t, rfl⟩ := rx; rfl
          | flt i => obtain ⟨t, rfl⟩ := rx; rfl
          | ref a => cases rx; rfl
          | ty n => cases rx; rfl)
theorem op_isNotAll {X : Cx} : OpR X (compareOp .IsNot) (fun x y H Q => (y = .non ∧ Q (.bl (!decide (x = .non))) H) ∨ (∃ b, y = .bl b ∧ Q (.bl (!decide (x = y))) H)) := by
  intro pins s σ H x y v u Q I rx ry h
  rcases h with h | ⟨b, rfl, q⟩
  · exact op_notN pins s σ H x y v u Q I rx ry h
  · obtain rfl : u = Value.bool b := ry
    by_cases e : x = .bl b
    · subst e
      obtain rfl : v = Value.bool b := rx
      exact wpAny_isNot_self rfl ⟨.bl false, H, I, rfl, by simpa using q⟩
    · have hne : v ≠ Value.bool b := fun z => by
        subst z
        exact e (RelV.inj rx (show RelV (.bl b) (Value.bool b) from rfl))
      refine wpAny_isNot_other ?_ hne ⟨.bl true, H, I, rfl, by simpa [e] using q⟩
      all_goals first
        | rfl
        | (cases x with
          | non => cases rx; rfl
          | bl c => cases rx; rfl
          | int i => obtain ⟨t, rfl⟩ := rx; rfl
          | str i => obtain ⟨t, rfl⟩ := rx; rfl
          | byt i => obtain ⟨t, rfl⟩ := rx; rfl
          | flt i => obtain ⟨t, rfl⟩ := rx; rfl
          | ref a => cases rx; rfl
          | ty n => cases rx; rfl)
/-- which value it is, as far as None, True and False go -/
def isV : D → V → Bool
  | .non, .non => true
  | .bl a, .bl b => a == b
  | _, _ => false
theorem isV_ok {K : PySem.W.Frag} {r : Rm} {h : Cells} {H : Hp} {d : D} {v : V} (x : RV K r h H d v) : decide (v = .non) = isV d .non ∧ ∀ b, decide (v = .bl b) = isV d (.bl b) := by
  cases d with
  | non => simp only [RV] at x; subst x; exact ⟨rfl, fun b => by simp [isV]⟩
  | bl a => simp only [RV] at x; subst x; exact ⟨by simp [isV], fun b => by cases a <;> cases b <;> simp [isV]⟩
  | int a => simp only [RV] at x; subst x; exact ⟨by simp [isV], fun b => by simp [isV]⟩
  | str a => simp only [RV] at x; subst x; exact ⟨by simp [isV], fun b => by simp [isV]⟩
  | tup a => simp only [RV] at x; obtain ⟨a, vs, rfl, _⟩ := x; exact ⟨by simp [isV], fun b => by simp [isV]⟩
  | lst a => simp only [RV] at x; obtain ⟨a, vs, rfl, _⟩ := x; exact ⟨by simp [isV], fun b => by simp [isV]⟩
  | scr a => simp only [RV] at x; obtain ⟨a, vs, rfl, _⟩ := x; exact ⟨by simp [isV], fun b => by simp [isV]⟩
  | dK a c => simp only [RV] at x; obtain ⟨a, vs, rfl, _⟩ := x; exact ⟨by simp [isV], fun b => by simp [isV]⟩
  | dT a c => simp only [RV] at x; obtain ⟨a, vs, rfl, _⟩ := x; exact ⟨by simp [isV], fun b => by simp [isV]⟩
  | ref a => simp only [RV] at x; obtain ⟨a, rfl, _⟩ := x; exact ⟨by simp [isV], fun b => by simp [isV]⟩
/-- x is y for y None, True or False -/
def isC' (_ : Cells) (x y : D) : Option Bool := match y with
  | .non => some (isV x .non)
  | .bl b => some (isV x (.bl b))
  | _ => none
def isNotC' (h : Cells) (x y : D) : Option Bool := (isC' h x y).map (!·)
theorem cmp_is {K : PySem.W.Frag} : CmpS K rIsAll isC' := by
  intro r h H d e v w k Q hr rd re e1 q
  have z := isV_ok rd
  cases e with
  | non => cases e1; simp only [RV] at re; subst re; exact .inl ⟨rfl, by rw [z.1]; exact q⟩
  | bl b => cases e1; simp only [RV] at re; subst re; exact .inr ⟨b, rfl, by rw [z.2]; exact q⟩
  | _ => cases e1
theorem cmp_isNot {K : PySem.W.Frag} : CmpS K (fun x y H Q => (y = .non ∧ Q (.bl (!decide (x = .non))) H) ∨ (∃ b, y = .bl b ∧ Q (.bl (!decide (x = y))) H)) isNotC' := by
  intro r h H d e v w k Q hr rd re e1 q
  have z := isV_ok rd
  cases e with
  | non => cases e1; simp only [RV] at re; subst re; exact .inl ⟨rfl, by rw [z.1]; exact q⟩
  | bl b => cases e1; simp only [RV] at re; subst re; exact .inr ⟨b, rfl, by rw [z.2]; exact q⟩
  | _ => cases e1

/-! ### keys, dicts -/
def keyOf : D → Option Key
  | .int i => some (.inl i)
  | .str x => some (.inr x)
  | _ => none
def keysOf : List D → Option (List Key)
  | [] => some []
  | d :: r => match keyOf d, keysOf r with
    | some k, some ks => some (k :: ks)
    | _, _ => none
def lookD {κ : Type} [DecidableEq κ] : List κ → List D → κ → Option D
  | k :: ks, x :: xs, j => if k = j then some x else lookD ks xs j
  | _, _, _ => none
def replD {κ : Type} [DecidableEq κ] (j : κ) (y : D) : List κ → List D → List D
  | k :: ks, x :: xs => (if k = j then y else x) :: replD j y ks xs
  | _, xs => xs
def putD {κ : Type} [DecidableEq κ] (ks : List κ) (xs : List D) (k : κ) (d : D) : List κ × List D :=
  if k ∈ ks then (ks, replD k d ks xs) else (ks ++ [k], xs ++ [d])
section
variable {K : PySem.W.Frag} {r : Rm} {h : Cells} {H : Hp} {κ : Type} [DecidableEq κ]
theorem keyOf_ok {d : D} {v : V} {k : Key} (x : RV K r h H d v) (e : keyOf d = some k) : v = kV k := by
  cases d with
  | int i => cases e; exact int_ok x
  | str i => cases e; exact str_ok x
  | _ => cases e
theorem keysOf_ok : ∀ {ds : List D} {vs : List V} {ks : List Key}, RVs K r h H ds vs → keysOf ds = some ks → vs = ks.map kV
  | [], _, _, x, e => by cases e; exact x.of_nil
  | d :: ds, _, ks, x, e => by
    obtain ⟨v, w, rfl, a, b⟩ := x.of_cons
    simp only [keysOf] at e
    split at e
    · rename_i k ks' e1 e2
      cases e
      rw [keyOf_ok a e1, keysOf_ok b e2]; rfl
    · cases e
theorem lookD_ok (j : κ) : ∀ {ks : List κ} {xs : List D} {vs : List V}, ks.length = xs.length → RVs K r h H xs vs →
    (∀ d, lookD ks xs j = some d → ∃ v, valV (ks.zip vs) j = some v ∧ RV K r h H d v) ∧ (lookD ks xs j = none → valV (ks.zip vs) j = none)
  | [], xs, vs, _, _ => ⟨fun d e => by simp [lookD] at e, fun _ => rfl⟩
  | k :: ks, [], _, hl, _ => by simp at hl
  | k :: ks, x :: xs, _, hl, y => by
    obtain ⟨v, w, rfl, a, b⟩ := y.of_cons
    have ih := lookD_ok j (ks := ks) (by simpa using hl) b
    simp only [lookD, List.zip_cons_cons]
    by_cases e : k = j
    · rw [if_pos e, valV_pos (p := (k, v)) e]
      exact ⟨fun d q => by cases q; exact ⟨v, rfl, a⟩, fun q => by cases q⟩
    · rw [if_neg e, valV_neg (p := (k, v)) e]
      exact ih
theorem any_mem (j : κ) : ∀ (ks : List κ) (vs : List V), ks.length = vs.length → ((ks.zip vs).any fun kv => decide (kv.1 = j)) = decide (j ∈ ks)
  | [], _, _ => by simp
  | k :: ks, [], hl => by simp at hl
  | k :: ks, v :: vs, hl => by
    rw [List.zip_cons_cons, List.any_cons, any_mem j ks vs (by simpa using hl)]
    by_cases e : k = j
    · simp [e]
    · simp only [e, decide_false, Bool.false_or, List.mem_cons]
      have e' : ¬ j = k := fun z => e z.symm
      simp [e']
theorem repl_ok (j : κ) {y : D} {u : V} (q : RV K r h H y u) : ∀ {ks : List κ} {xs : List D} {vs : List V}, ks.length = xs.length → RVs K r h H xs vs →
    ∃ ws, (ks.zip vs).map (fun kv => if kv.1 = j then (kv.1, u) else kv) = ks.zip ws ∧ RVs K r h H (replD j y ks xs) ws ∧ (replD j y ks xs).length = xs.length
  | [], [], _, _, y => ⟨[], by rw [y.of_nil]; rfl, RVs.nil, rfl⟩
  | [], _ :: _, _, hl, _ => by simp at hl
  | k :: ks, [], _, hl, _ => by simp at hl
  | k :: ks, x :: xs, _, hl, z => by
    obtain ⟨v, w, rfl, a, b⟩ := z.of_cons
    obtain ⟨ws, e1, e2, e3⟩ := repl_ok j q (ks := ks) (by simpa using hl) b
    simp only [replD, List.zip_cons_cons, List.map_cons, e1]
    by_cases e : k = j
    · rw [if_pos e, if_pos e]
      exact ⟨u :: ws, rfl, RVs.cons q e2, by simp [e3]⟩
    · rw [if_neg e, if_neg e]
      exact ⟨v :: ws, rfl, RVs.cons a e2, by simp [e3]⟩
theorem zip_snoc (k : κ) (v : V) : ∀ (ks : List κ) (vs : List V), ks.length = vs.length → ks.zip vs ++ [(k, v)] = (ks ++ [k]).zip (vs ++ [v])
  | [], [], _ => rfl
  | [], _ :: _, h => by simp at h
  | _ :: _, [], h => by simp at h
  | a :: ks, b :: vs, h => by
    simp only [List.zip_cons_cons, List.cons_append]
    rw [zip_snoc k v ks vs (by simpa using h)]
theorem putD_ok (j : κ) {y : D} {u : V} (q : RV K r h H y u) {ks : List κ} {xs : List D} {vs : List V} (hl : ks.length = xs.length) (z : RVs K r h H xs vs) :
    ∃ ws, putK (ks.zip vs) j u = (putD ks xs j y).1.zip ws ∧ RVs K r h H (putD ks xs j y).2 ws ∧ (putD ks xs j y).1.length = (putD ks xs j y).2.length := by
  have lv := z.length
  unfold putK putD
  rw [any_mem j ks vs (by omega)]
  by_cases e : j ∈ ks
  · rw [if_pos e, if_pos (decide_eq_true e)]
    obtain ⟨ws, e1, e2, e3⟩ := repl_ok j q hl z
    exact ⟨ws, e1, e2, by show ks.length = (replD j y ks xs).length; omega⟩
  · rw [if_neg e, if_neg (by simp [e])]
    refine ⟨vs ++ [u], zip_snoc j u ks vs (by omega), z.append (RVs.cons q RVs.nil), ?_⟩
    simp [hl]
end
/-- a dict, wherever it is -/
def dictOf (h : Cells) : D → Option D
  | .dK ks xs => some (.dK ks xs)
  | .dT ks xs => some (.dT ks xs)
  | .ref n => (match h[n]? with
    | some (_, .dK ks xs) => some (.dK ks xs)
    | some (_, .dT ks xs) => some (.dT ks xs)
    | _ => none)
  | _ => none
/-- what a dict holds at a key; none where it is no key of such a dict -/
def dgetD (c k : D) : Option (Option D) := match c, k with
  | .dK ks xs, k => (keyOf k).map (lookD ks xs)
  | .dT ks xs, .tup ts => (keysOf ts).map (lookD ks xs)
  | _, _ => none
section
variable {K : PySem.W.Frag} {r : Rm} {h : Cells} {H : Hp}
theorem dictOf_ok (hr : HRel K r h H) {d c : D} {v : V} (x : RV K r h H d v) (e : dictOf h d = some c) : ∃ a, v = .ref a ∧
    ((∃ ks xs vs, c = .dK ks xs ∧ ks.length = xs.length ∧ Rd H a (.dK (ks.zip vs)) ∧ RVs K r h H xs vs) ∨ ∃ ks xs vs, c = .dT ks xs ∧ ks.length = xs.length ∧ Rd H a (.dT (ks.zip vs)) ∧ RVs K r h H xs vs) := by
  cases d with
  | dK ks xs =>
    have e : some (D.dK ks xs) = some c := e
    cases e
    simp only [RV] at x
    obtain ⟨a, vs, rfl, _, l, z, y⟩ := x
    exact ⟨a, rfl, .inl ⟨ks, xs, vs, rfl, l, z, y⟩⟩
  | dT ks xs =>
    have e : some (D.dT ks xs) = some c := e
    cases e
    simp only [RV] at x
    obtain ⟨a, vs, rfl, _, l, z, y⟩ := x
    exact ⟨a, rfl, .inr ⟨ks, xs, vs, rfl, l, z, y⟩⟩
  | ref n =>
    simp only [RV] at x
    obtain ⟨a, rfl, ea⟩ := x
    simp only [dictOf] at e
    split at e
    · rename_i ks xs en
      cases e
      obtain ⟨_, a', ea', vs, _, l, z, y⟩ := hr.cell n _ _ en
      rw [ea] at ea'; cases ea'
      exact ⟨a, rfl, .inl ⟨ks, xs, vs, rfl, l, z, y⟩⟩
    · rename_i ks xs en
      cases e
      obtain ⟨_, a', ea', vs, _, l, z, y⟩ := hr.cell n _ _ en
      rw [ea] at ea'; cases ea'
      exact ⟨a, rfl, .inr ⟨ks, xs, vs, rfl, l, z, y⟩⟩
    · cases e
  | _ => cases e
theorem dgetD_ok (hr : HRel K r h H) {d c k : D} {v w : V} {o : Option D} (x : RV K r h H d v) (e : dictOf h d = some c) (y : RV K r h H k w) (g : dgetD c k = some o) :
    ∃ a, v = .ref a ∧ ((∃ kvs, Rd H a (.dK kvs)) ∨ ∃ kvs, Rd H a (.dT kvs)) ∧ (∀ d', o = some d' → ∃ v', DGet H a w (some v') ∧ RV K r h H d' v') ∧ (o = none → DGet H a w none) := by
  obtain ⟨a, rfl, ⟨ks, xs, vs, rfl, l, z, q⟩ | ⟨ks, xs, vs, rfl, l, z, q⟩⟩ := dictOf_ok hr x e
  · simp only [dgetD, Option.map_eq_some_iff] at g
    obtain ⟨j, e1, rfl⟩ := g
    have e2 := keyOf_ok y e1
    subst e2
    have m := lookD_ok j l q
    refine ⟨a, rfl, .inl ⟨_, z⟩, fun d' e3 => ?_, fun e3 => ?_⟩
    · obtain ⟨v', e4, r4⟩ := m.1 d' e3
      exact ⟨v', .inl ⟨_, j, z, rfl, e4.symm⟩, r4⟩
    · exact .inl ⟨_, j, z, rfl, (m.2 e3).symm⟩
  · cases k with
    | tup ts =>
      simp only [dgetD, Option.map_eq_some_iff] at g
      obtain ⟨j, e1, rfl⟩ := g
      obtain ⟨b, ws, rfl, eb, y2⟩ := tup_ok y
      have e2 := keysOf_ok y2 e1
      subst e2
      have m := lookD_ok j l q
      refine ⟨a, rfl, .inr ⟨_, z⟩, fun d' e3 => ?_, fun e3 => ?_⟩
      · obtain ⟨v', e4, r4⟩ := m.1 d' e3
        exact ⟨v', .inr ⟨_, j, b, z, rfl, eb, e4.symm⟩, r4⟩
      · exact .inr ⟨_, j, b, z, rfl, eb, (m.2 e3).symm⟩
    | _ => simp [dgetD] at g
end
/-! ### in -/
def inC (h : Cells) (x y : D) : Option Bool := match dictOf h y with
  | some c => (dgetD c x).map (·.isSome)
  | none => (match der h y with
    | .tup ys => if okD 60 x = true ∧ okD 60 (.tup ys) = true then some (ys.any fun z => eqD z x) else none
    | .lst ys => if okD 60 x = true ∧ okD 60 (.lst ys) = true then some (ys.any fun z => eqD z x) else none
    | _ => none)
def notInC (h : Cells) (x y : D) : Option Bool := (inC h x y).map (!·)
theorem any_toP {n : Nat} {x : D} (gx : okD n x = true) : ∀ {k : Nat} {ys : List D}, okDs k ys = true → ((toPs ys).any fun z => PyData.eqv z (toP x)) = ys.any fun z => eqD z x
  | _, [], _ => by simp [toPs]
  | k, y :: ys, g => by
    simp only [okDs, Bool.and_eq_true] at g
    simp only [toPs, List.any_cons]
    rw [eqv_eqD g.1 gx, any_toP gx g.2]
def rInAll (K : PySem.W.Frag) (ng : Bool) : R2 := fun x y H Q => (∃ a o, y = .ref a ∧ DGet H a x o ∧ Q (.bl (if ng then !o.isSome else o.isSome)) H) ∨
  ∃ d ds, Dp K H x d ∧ (Dp K H y (.list ds) ∨ Dp K H y (.tuple ds)) ∧ SeqAt.shaped d = true ∧ PyData.canLayAll0 ds = true ∧ Q (.bl (if ng then !(ds.any fun z => PyData.eqv z d) else ds.any fun z => PyData.eqv z d)) H
theorem op_inAll {X : Cx} (hu : X.A.units + 65 < cLine) : OpR X (compareOp .In) (rInAll X.K false) := by
  intro pins s σ H x y v u Q I rx ry h
  rcases h with ⟨a, o, rfl, g, q⟩ | ⟨d, ds, hd, he, sd, se, q⟩
  · obtain rfl : u = Value.ref a := ry
    exact d_in (by omega) I g rx fun s3 I3 => ⟨.bl o.isSome, H, I3, rfl, q⟩
  · obtain ⟨as, r1⟩ := Dp.reads I d x v hd rx
    have hroom : X.A.units + 1 + min (PyData.depthAll ds) d.depth < cLine := room_in_shaped sd hu
    rcases he with he | he
    · obtain ⟨bs, r2⟩ := Dp.reads I (.list ds) y u he ry
      exact SeqAt.in_list_reads r2 r1 se (SeqAt.canLay_of_shaped sd) hroom ⟨.bl _, H, I, rfl, q⟩
    · obtain ⟨bs, r2⟩ := Dp.reads I (.tuple ds) y u he ry
      exact SeqAt.in_tuple_reads r2 r1 se (SeqAt.canLay_of_shaped sd) hroom ⟨.bl _, H, I, rfl, q⟩
theorem op_notInAll {X : Cx} (hu : X.A.units + 65 < cLine) : OpR X (compareOp .NotIn) (rInAll X.K true) := by
  intro pins s σ H x y v u Q I rx ry h
  rcases h with ⟨a, o, rfl, g, q⟩ | ⟨d, ds, hd, he, sd, se, q⟩
  · obtain rfl : u = Value.ref a := ry
    exact d_notIn (by omega) I g rx fun s3 I3 => ⟨.bl (!o.isSome), H, I3, rfl, q⟩
  · obtain ⟨as, r1⟩ := Dp.reads I d x v hd rx
    have hroom : X.A.units + 1 + min (PyData.depthAll ds) d.depth < cLine := room_in_shaped sd hu
    rcases he with he | he
    · obtain ⟨bs, r2⟩ := Dp.reads I (.list ds) y u he ry
      exact SeqAt.notIn_list_reads r2 r1 se (SeqAt.canLay_of_shaped sd) hroom ⟨.bl _, H, I, rfl, q⟩
    · obtain ⟨bs, r2⟩ := Dp.reads I (.tuple ds) y u he ry
      exact SeqAt.notIn_tuple_reads r2 r1 se (SeqAt.canLay_of_shaped sd) hroom ⟨.bl _, H, I, rfl, q⟩
theorem inC_ok {K : PySem.W.Frag} (ng : Bool) : CmpS K (rInAll K ng) (fun h x y => (inC h x y).map fun b => if ng then !b else b) := by
  intro r h H d e v w k Q hr rd re e1 q
  simp only [Option.map_eq_some_iff] at e1
  obtain ⟨b, e1, rfl⟩ := e1
  unfold inC at e1
  split at e1
  · rename_i c ec
    simp only [Option.map_eq_some_iff] at e1
    obtain ⟨o, eo, rfl⟩ := e1
    obtain ⟨a, rfl, _, g1, g2⟩ := dgetD_ok hr re ec rd eo
    refine .inl ?_
    cases o with
    | none => exact ⟨a, none, rfl, g2 rfl, q⟩
    | some d' =>
      obtain ⟨v', g3, _⟩ := g1 d' rfl
      exact ⟨a, some v', rfl, g3, q⟩
  · split at e1
    · rename_i ys ey
      split at e1
      · rename_i g
        cases e1
        have g2 := g.2
        rw [← ey] at g2
        have t := dp_der hr g2 re
        rw [ey] at t
        simp only [toP] at t
        have g3 := g.2
        simp only [okD, Bool.and_eq_true] at g3
        refine .inr ⟨_, _, dp_of g.1 rd, .inr t, shaped_of g.1, (okDs_lay g3.2).1, ?_⟩
        rw [any_toP g.1 g3.2]; exact q
      · cases e1
    · rename_i ys ey
      split at e1
      · rename_i g
        cases e1
        have g2 := g.2
        rw [← ey] at g2
        have t := dp_der hr g2 re
        rw [ey] at t
        simp only [toP] at t
        have g3 := g.2
        simp only [okD, Bool.and_eq_true] at g3
        refine .inr ⟨_, _, dp_of g.1 rd, .inl t, shaped_of g.1, (okDs_lay g3.2).1, ?_⟩
        rw [any_toP g.1 g3.2]; exact q
      · cases e1
    · cases e1
theorem cmp_in {K : PySem.W.Frag} : CmpS K (rInAll K false) inC := by
  intro r h H d e v w k Q hr rd re e1 q
  exact inC_ok false r h H d e v w k Q hr rd re (by show (inC h d e).map _ = _; rw [e1]; rfl) q
theorem cmp_notIn {K : PySem.W.Frag} : CmpS K (rInAll K true) notInC := by
  intro r h H d e v w k Q hr rd re e1 q
  refine inC_ok true r h H d e v w k Q hr rd re ?_ q
  rw [← e1]; rfl
end Mi

/-! Mi4: subscripts, slices, displays, calls of built-ins. -/
namespace Mi
open PySem PySem.Spec PyProof.Rows L2

/-! ### a[b] -/
def seqOf (h : Cells) (d : D) : Option (List D) := match d with
  | .lst xs => some xs
  | .tup xs => some xs
  | .ref n => (match h[n]? with
    | some (_, .lst xs) => some xs
    | _ => none)
  | _ => none
section
variable {K : PySem.W.Frag} {r : Rm} {h : Cells} {H : Hp}
theorem seqOf_ok (hr : HRel K r h H) {d : D} {v : V} {xs : List D} (rv : RV K r h H d v) (e : seqOf h d = some xs) : ∃ a vs, v = .ref a ∧ (H a = some (.lst vs) ∨ H a = some (.tup vs)) ∧ RVs K r h H xs vs := by
  cases d with
  | lst ys =>
    have e : some ys = some xs := e
    cases e
    obtain ⟨a, vs, e1, e2, y⟩ := lstOf_ok hr rv rfl
    exact ⟨a, vs, e1, .inl e2, y⟩
  | tup ys =>
    have e : some ys = some xs := e
    cases e
    obtain ⟨a, vs, e1, e2, y⟩ := tup_ok rv
    exact ⟨a, vs, e1, .inr e2, y⟩
  | ref n =>
    obtain ⟨a, vs, e1, e2, y⟩ := lstOf_ok hr rv (show lstOf h (.ref n) = some xs by
      simp only [seqOf] at e
      simp only [lstOf]
      split at e
      · rename_i q; first | (rw [q]; exact e) | exact e
      · cases e)
    exact ⟨a, vs, e1, .inl e2, y⟩
  | _ => cases e
theorem atI_ok {xs : List D} {vs : List V} {i : Int} {d : D} (y : RVs K r h H xs vs) (e : atI xs i = some d) : ∃ v, atI vs i = some v ∧ RV K r h H d v := by
  unfold atI at e ⊢
  rw [← y.length]
  cases q : ixN xs.length i with
  | none => rw [q] at e; cases e
  | some j =>
    rw [q] at e
    exact y.get e
end
def idxD (h : Cells) (x y : D) : Option D := match dictOf h x with
  | some c => (dgetD c y).bind id
  | none => (match seqOf h x, y with
    | some xs, .int i => atI xs i
    | _, _ => none)
def E_idx (f f' : ME) : ME := E2 (fun x y h => ofOpt (idxD h x y) h) f f'
def rIxAll (K : PySem.W.Frag) : R2 := fun x y H Q => (rIxL K x y H Q ∨ rIxT K x y H Q) ∨ ∃ a v, x = .ref a ∧ DGet H a y (some v) ∧ Q v H
theorem ix_dict {X : Cx} (hu : X.A.units + 1 < cLine) : IxR X (fun x y H Q => ∃ a v, x = .ref a ∧ DGet H a y (some v) ∧ Q v H) := by
  intro value slice pins s σ H x y v u Q I rx ry h hs
  obtain ⟨a, z, rfl, g, q⟩ := h
  obtain rfl : v = Value.ref a := rx
  exact tail_any (dict_typeIs I g) PySem.F.slot_dict_getitem.lookup (d_getItem hu I g ry fun w' s' I' rw' => ⟨z, H, I', rw', q⟩) hs
theorem ix_all {X : Cx} (hu : X.A.units + 1 < cLine) : IxR X (rIxAll X.K) := (ix_list.or ix_tup).or (ix_dict hu)
theorem idxD_ok {K : PySem.W.Frag} {W : Wish} : OpS K W (rIxAll K) (fun x y h => ofOpt (idxD h x y) h) := by
  intro r h H d e v w Q hr rd re wg
  replace wg : Wg K W (RRv K) (ofOpt (idxD h d e) h) r h H Q := wg
  cases q : idxD h d e with
  | none => rw [q] at wg; exact wg.elim
  | some z =>
    rw [q] at wg
    unfold idxD at q
    split at q
    · rename_i c ec
      obtain ⟨o, eo, q⟩ : ∃ o, dgetD c e = some o ∧ o = some z := by
        cases t : dgetD c e with
        | none => rw [t] at q; cases q
        | some o => rw [t] at q; exact ⟨o, rfl, q⟩
      obtain ⟨a, rfl, _, g1, _⟩ := dgetD_ok hr rd ec re eo
      obtain ⟨v', g2, r2⟩ := g1 z q
      exact .inr ⟨a, v', rfl, g2, wg r H v' hr .refl r2⟩
    · split at q
      · rename_i xs i ex
        obtain ⟨a, vs, rfl, ea, y⟩ := seqOf_ok hr rd ex
        obtain ⟨v', e2, r2⟩ := atI_ok y q
        rw [int_ok re]
        refine .inl ?_
        rcases ea with ea | ea
        · exact .inl ⟨a, vs, i, v', rfl, rfl, .of ea, e2, wg r H v' hr .refl r2⟩
        · exact .inr ⟨a, vs, i, v', rfl, rfl, .of ea, e2, wg r H v' hr .refl r2⟩
      · cases q
section
variable {X : Cx} {W : Wish} {a b : Expr} {f f' : ME} {pos p2 : Pos}
theorem pm_idx (hu : X.A.units + 1 < cLine) (ha : PM X W a f) (hb : PM X W b f') (hs : PlainIx b := by exact fun _ _ => rfl) : PM X W (.Subscript a b pos) (E_idx f f') := by
  refine ⟨(pe_ix (ix_all hu) ha.pe hb.pe hs).imp fun σ H Q t => ?_⟩
  obtain ⟨r, h, m, x, w⟩ := tG.two (RR0 := RRv X.K) (RR1 := RRv X.K) stb_v t
  refine ⟨r, h, m, x, w.imp fun v H1 ⟨r1, h1, m1, x1, w1⟩ => ⟨r1, h1, m1, x1, w1.imp fun u H2 ⟨r2, h2, d, e, hr, rd, re, w2⟩ => idxD_ok r2 h2 H2 d e v u Q hr rd re w2⟩⟩
end

/-! ### slices -/
structure PMO (X : Cx) (W : Wish) (e : Option Expr) (f : Loc → Cells → Res (Option Int)) : Prop where
  po : PO X e (tG X.K W RRe f)
theorem _root_.L2.PO.imp {X : Cx} {e : Option Expr} {t t' : TO} (h : PO X e t) (i : ∀ σ H Q, t' σ H Q → t σ H Q) : PO X e t' := ⟨fun pins s σ H Q I w => h.run pins s σ H Q I (i σ H Q w)⟩
def O_none : Loc → Cells → Res (Option Int) := fun _ h => .ok none h
def O_some (f : ME) : Loc → Cells → Res (Option Int) := fun m h => (f m h).bind fun d h1 => match d with
  | .int i => .ok (some i) h1
  | _ => .stuck
def cutD (xs : List D) (lo hi : Option Int) : List D := (xs.drop (HT.sIx xs.length 0 lo)).take (HT.sIx xs.length xs.length hi - HT.sIx xs.length 0 lo)
def sliceD (lv : Bool) (x : D) (lo hi : Option Int) (h : Cells) : Res D := match x with
  | .tup xs => .ok (.tup (cutD xs lo hi)) h
  | .scr xs => alloc lv (.lst (cutD xs lo hi)) h
  | x => match lstOf h x with
    | some xs => alloc lv (.lst (cutD xs lo hi)) h
    | none => .stuck
def E_slice (lv : Bool) (f : ME) (lo hi : Loc → Cells → Res (Option Int)) : ME := fun m h => (f m h).bind fun x h1 => (lo m h1).bind fun l h2 => (hi m h2).bind fun u h3 => sliceD lv x l u h3
theorem cut_ok {K : PySem.W.Frag} {r : Rm} {h : Cells} {H : Hp} {xs : List D} {vs : List V} (y : RVs K r h H xs vs) (lo hi : Option Int) : RVs K r h H (cutD xs lo hi) (cutV vs lo hi) := by
  unfold cutD cutV
  rw [y.length]
  exact (y.drop _).take _
theorem sliceD_ok {K : PySem.W.Frag} {W : Wish} {lv : Bool} {r : Rm} {h : Cells} {H : Hp} {d : D} {v : V} {lo hi : Option Int} {Q : VK} (hr : HRel K r h H) (rd : RV K r h H d v) (w : Wg K W (RRv K) (sliceD lv d lo hi h) r h H Q) : rSlL K v lo hi H Q ∨ rSlA K v lo hi H Q := by
  unfold sliceD at w
  split at w
  · rename_i xs
    obtain ⟨a, vs, rfl, ea, y⟩ := tup_ok rd
    refine .inr ⟨a, vs, rfl, .of ea, fun e => ?_, fun _ => new_tup hr (cut_ok y lo hi) w⟩
    refine w r H _ hr .refl ?_
    have e2 : cutD xs lo hi = xs := by
      unfold cutD
      rw [y.length, e.1, e.2, List.drop_zero, Nat.sub_zero, ← y.length, List.take_length]
    rw [e2]; exact rd
  · rename_i xs
    simp only [RV] at rd
    obtain ⟨a, vs, rfl, sq, y⟩ := rd
    exact .inl ⟨a, vs, rfl, sq.sq, alloc_lst hr (cut_ok y lo hi) w⟩
  · split at w
    · rename_i xs ex
      obtain ⟨a, vs, rfl, ea, y⟩ := lstOf_ok hr rd ex
      exact .inl ⟨a, vs, rfl, .of ea, alloc_lst hr (cut_ok y lo hi) w⟩
    · exact w.elim
section
variable {X : Cx} {W : Wish} {a : Expr} {f : ME} {pos p2 : Pos} {lo hi : Option Expr} {fl fh : Loc → Cells → Res (Option Int)}
theorem pmo_none : PMO X W none O_none := ⟨po_none.imp fun σ H Q ⟨r, h, m, x, w⟩ => w r H none x.hr .refl rfl⟩
theorem pmo_some (ha : PM X W a f) : PMO X W (some a) (O_some f) := by
  refine ⟨(po_some ha.pe).imp fun σ H Q t => ?_⟩
  obtain ⟨r, h, m, x, w⟩ := tG.one (RR0 := RRv X.K) t
  refine ⟨r, h, m, x, w.imp fun v H1 ⟨r1, h1, d, hr, rd, w1⟩ => ?_⟩
  cases d with
  | int i => exact ⟨i, int_ok rd, w1 r1 H1 _ hr .refl rfl⟩
  | _ => exact w1.elim
theorem pm_slice (lv : Bool) (ha : PM X W a f) (hl : PMO X W lo fl) (hh : PMO X W hi fh) : PM X W (.Subscript a (.Slice lo hi none p2) pos) (E_slice lv f fl fh) := by
  refine ⟨(pe_slice (sl_list.or sl_tupA) ha.pe hl.po hh.po).imp fun σ H Q ⟨r, h, m, x, w⟩ => ?_⟩
  unfold E_slice at w
  refine ⟨r, h, m, x, (Wg.bind (RR0 := RRv X.K) w).imp fun v H1 ⟨r1, h1, d, hr, p, rr, _, w1⟩ => ⟨r1, h1, m, x.post p hr, (Wg.bind (RR0 := RRe) w1).imp fun l H2 ⟨r2, h2, l', hr2, p2, rr2, _, w2⟩ =>
    ⟨r2, h2, m, (x.post p hr).post p2 hr2, (Wg.bind (RR0 := RRe) w2).imp fun u H3 ⟨r3, h3, u', hr3, p3, rr3, _, w3⟩ => ?_⟩⟩⟩
  cases rr2
  cases rr3
  exact sliceD_ok hr3 ((rr.post p2.p0).post p3.p0) w3
/-- xs[::-1] of a list -/
def revD (lv : Bool) (x : D) (h : Cells) : Res D := match lstOf h x with
  | some xs => alloc lv (.lst xs.reverse) h
  | none => .stuck
theorem pm_rev {k : Nat} {p1 p3 : Pos} (lv : Bool) (ha : PM X W a f) : PM X W (.Subscript a (.Slice none none (some (.UnaryOp .USub (.Constant (.int 1) k p1) p2)) p3) pos) (E1 (revD lv) f) := by
  refine ⟨(pe_revL ha.pe).imp fun σ H Q t => ?_⟩
  obtain ⟨r, h, m, x, w⟩ := tG.one (RR0 := RRv X.K) t
  refine ⟨r, h, m, x, w.imp fun v H1 ⟨r1, h1, d, hr, rd, w1⟩ => ?_⟩
  unfold revD at w1
  split at w1
  · rename_i xs ex
    obtain ⟨b, vs, rfl, ea, y⟩ := lstOf_ok hr rd ex
    exact ⟨b, vs, rfl, .of ea, alloc_lst hr y.reverse w1⟩
  · exact w1.elim
end

/-! ### displays -/
def A_nil : MA := fun _ h => .ok [] h
def A_cons (f : ME) (g : MA) : MA := fun m h => (f m h).bind fun x h1 => (g m h1).bind fun xs h2 => .ok (x :: xs) h2
def E_tup (g : MA) : ME := fun m h => (g m h).bind fun xs h1 => if xs.length ≤ big then .ok (.tup xs) h1 else .stuck
def E_lst (lv : Bool) (g : MA) : ME := fun m h => (g m h).bind fun xs h1 => if xs.length ≤ big then alloc lv (.lst xs) h1 else .stuck
section
variable {X : Cx} {W : Wish} {a : Expr} {es : List Expr} {f : ME} {g : MA} {pos : Pos}
theorem pma_nil : PMA X W [] A_nil := ⟨pa_nil.imp fun σ H Q ⟨r, h, m, x, w⟩ => w r H [] x.hr .refl RVs.nil⟩
theorem pma_cons (ha : PM X W a f) (hs : PMA X W es g) (h1 : starEach (a :: es) X.env = (false, eval a X.env) :: starEach es X.env := by rfl) : PMA X W (a :: es) (A_cons f g) := by
  refine ⟨(pa_cons ha.pe hs.pa h1).imp fun σ H Q t => ?_⟩
  obtain ⟨r, h, m, x, w⟩ := tG.two (RR0 := RRv X.K) (RR1 := RRs X.K) stb_v t
  exact ⟨r, h, m, x, w.imp fun v H1 ⟨r1, h1, m1, x1, w1⟩ => ⟨r1, h1, m1, x1, w1.imp fun u H2 ⟨r2, h2, d, e, hr, rd, re, w2⟩ => w2 r2 H2 _ hr .refl (RVs.cons rd re)⟩⟩
theorem pm_tup {k} (hs : PMA X W es g) : PM X W (.Tuple es k pos) (E_tup g) := by
  refine ⟨(pe_tup hs.pa).imp fun σ H Q t => ?_⟩
  obtain ⟨r, h, m, x, w⟩ := tG.one (RR0 := RRs X.K) t
  refine ⟨r, h, m, x, w.imp fun v H1 ⟨r1, h1, d, hr, rd, w1⟩ => ?_⟩
  split at w1
  · rename_i hl
    exact ⟨by rw [← rd.length]; exact big_le hl, new_tup hr rd w1⟩
  · exact w1.elim
theorem pm_lst (lv : Bool) (hs : PMA X W es g) : PM X W (.List es pos) (E_lst lv g) := by
  refine ⟨(pe_lst hs.pa).imp fun σ H Q t => ?_⟩
  obtain ⟨r, h, m, x, w⟩ := tG.one (RR0 := RRs X.K) t
  refine ⟨r, h, m, x, w.imp fun v H1 ⟨r1, h1, d, hr, rd, w1⟩ => ?_⟩
  split at w1
  · rename_i hl
    exact ⟨by rw [← rd.length]; exact big_le hl, alloc_lst hr rd w1⟩
  · exact w1.elim
/-- {} -/
def E_dK0 (lv : Bool) : ME := fun _ h => alloc lv (.dK [] []) h
def E_dT0 (lv : Bool) : ME := fun _ h => alloc lv (.dT [] []) h
theorem pm_dK0 (lv : Bool) : PM X W (.Dict [] [] pos) (E_dK0 lv) := ⟨pe_dnewK.imp fun σ H Q ⟨r, h, m, x, w⟩ => alloc_dK (vs := []) x.hr RVs.nil rfl w⟩
theorem pm_dT0 (lv : Bool) : PM X W (.Dict [] [] pos) (E_dT0 lv) := ⟨pe_dnewT.imp fun σ H Q ⟨r, h, m, x, w⟩ => alloc_dT (vs := []) x.hr RVs.nil rfl w⟩
end

/-! ### calls of built-ins -/
def E_fn (g : List D → Cells → Res D) (f : MA) : ME := fun m h => (f m h).bind g
def CallS (K : PySem.W.Frag) (W : Wish) (rule : List V → Hp → VK → Prop) (g : List D → Cells → Res D) : Prop :=
  ∀ (r : Rm) (h : Cells) (H : Hp) (ds : List D) (vs : List V) (Q : VK), HRel K r h H → RVs K r h H ds vs → Wg K W (RRv K) (g ds h) r h H Q → rule vs H Q
section
variable {X : Cx} {W : Wish} {x : Str} {e : Expr} {es : List Expr} {f : MA} {p pos : Pos} {rule : List V → Hp → VK → Prop} {g : List D → Cells → Res D} {id T : String}
theorem tG.call (hs : CallS X.K W rule g) {σ : L2.St} {H : Hp} {Q : VK} (t : tG X.K W (RRv X.K) (E_fn g f) σ H Q) : tCB rule (tG X.K W (RRs X.K) f) σ H Q := by
  obtain ⟨r, h, m, x, w⟩ := tG.one (RR0 := RRs X.K) t
  exact ⟨r, h, m, x, w.imp fun v H1 ⟨r1, h1, d, hr, rd, w1⟩ => hs r1 h1 H1 d v Q hr rd w1⟩
theorem pm_callB (hc : CallR X (.builtin id) rule) (hs : CallS X.K W rule g) (ha : PMA X W (e :: es) f) (hm : X.mg x = none) (hg : Gl X x := by rfl) (hv : bootBuiltins x = some (.builtin id) := by decide +kernel) (hn : x ≠ "__name__" := by decide) (hdb : (x == ("__debug__" : Str)) = false := by decide)
    (he : starEach (e :: es) X.env = (false, eval e X.env) :: starEach es X.env := by rfl) (hpl : (backTo pos (starEach es X.env)).any (·.1) = false := by rfl) : PM X W (.Call (.Name x p) (e :: es) [] pos) (E_fn g f) :=
  ⟨(pe_callB hc hg hm hv ha.pa hn hdb he hpl).imp fun σ H Q t => tG.call hs t⟩
theorem pm_callTy (hc : CallR X (.type T) rule) (hs : CallS X.K W rule g) (ha : PMA X W (e :: es) f) (hm : X.mg x = none) (hg : Gl X x := by rfl) (hv : bootBuiltins x = some (.type T) := by decide +kernel) (hn : x ≠ "__name__" := by decide) (hdb : (x == ("__debug__" : Str)) = false := by decide)
    (he : starEach (e :: es) X.env = (false, eval e X.env) :: starEach es X.env := by rfl) (hpl : (backTo pos (starEach es X.env)).any (·.1) = false := by rfl) : PM X W (.Call (.Name x p) (e :: es) [] pos) (E_fn g f) :=
  ⟨(pe_callTy hc hg hm hv ha.pa hn hdb he hpl).imp fun σ H Q t => tG.call hs t⟩
/-- a built-in that the module has imported -/
theorem pm_callM (hc : CallR X (.builtin id) rule) (hs : CallS X.K W rule g) (ha : PMA X W (e :: es) f) (hm : X.mg x = some (.builtin id)) (hg : Gl X x := by rfl) (hdb : (x == ("__debug__" : Str)) = false := by decide)
    (he : starEach (e :: es) X.env = (false, eval e X.env) :: starEach es X.env := by rfl) (hpl : (backTo pos (starEach es X.env)).any (·.1) = false := by rfl) : PM X W (.Call (.Name x p) (e :: es) [] pos) (E_fn g f) :=
  ⟨(pe_callBfun hc hg hm ha.pa hdb he hpl).imp fun σ H Q t => tG.call hs t⟩
end
section
variable {K : PySem.W.Frag} {W : Wish} {r : Rm} {h : Cells} {H : Hp}
theorem rvs1 {d : D} {vs : List V} (x : RVs K r h H [d] vs) : ∃ v, vs = [v] ∧ RV K r h H d v := by
  obtain ⟨v, w, rfl, a, b⟩ := x.of_cons
  rw [b.of_nil]; exact ⟨v, rfl, a⟩
theorem rvs2 {d e : D} {vs : List V} (x : RVs K r h H [d, e] vs) : ∃ v w, vs = [v, w] ∧ RV K r h H d v ∧ RV K r h H e w := by
  obtain ⟨v, w, rfl, a, b⟩ := x.of_cons
  obtain ⟨u, rfl, c⟩ := rvs1 b
  exact ⟨v, u, rfl, a, c⟩
/-- len -/
def lenF (ds : List D) (h : Cells) : Res D := match ds with
  | [.str x] => if x.length ≤ big then .ok (.int x.length) h else .stuck
  | [d] => (match seqOf h d with
    | some xs => .ok (.int xs.length) h
    | none => .stuck)
  | _ => .stuck
theorem calls_len : CallS K W (fun xs H Q => ∃ x n, xs = [x] ∧ LenV K x H n ∧ Q (.int n) H) lenF := by
  intro r h H ds vs Q hr rs w
  unfold lenF at w
  split at w
  · obtain ⟨v, rfl, rv⟩ := rvs1 rs
    split at w
    · rename_i x hl
      rw [str_ok rv]
      exact ⟨_, x.length, rfl, ⟨big_le hl, rfl⟩, w r H _ hr .refl rv_int⟩
    · exact w.elim
  · obtain ⟨v, rfl, rv⟩ := rvs1 rs
    split at w
    · rename_i xs ex
      obtain ⟨a, vs, rfl, ea, y⟩ := seqOf_ok hr rv ex
      refine ⟨_, xs.length, rfl, ?_, w r H _ hr .refl rv_int⟩
      rcases ea with ea | ea
      · exact .inl ⟨vs, .of ea, y.length⟩
      · exact .inr ⟨vs, .of ea, y.length⟩
    · exact w.elim
  · exact w.elim
/-- int(x), abs(x), max(x, y), min(x, y) of ints -/
def intF (ds : List D) (h : Cells) : Res D := match ds with
  | [.int i] => .ok (.int i) h
  | _ => .stuck
theorem calls_int : CallS K W (fun xs H Q => (∃ i, xs = [.int i] ∧ Q (.int i) H) ∨ ∃ k, xs = [.bl k] ∧ Q (.int (if k then 1 else 0)) H) intF := by
  intro r h H ds vs Q hr rs w
  unfold intF at w
  split at w
  · obtain ⟨v, rfl, rv⟩ := rvs1 rs
    rw [int_ok rv]
    exact .inl ⟨_, rfl, w r H _ hr .refl rv_int⟩
  · exact w.elim
def absF (ds : List D) (h : Cells) : Res D := match ds with
  | [.int i] => .ok (.int i.natAbs) h
  | _ => .stuck
theorem calls_abs : CallS K W (fun xs H Q => ∃ i, xs = [.int i] ∧ Q (.int (if i < 0 then -i else i)) H) absF := by
  intro r h H ds vs Q hr rs w
  unfold absF at w
  split at w
  · rename_i i
    obtain ⟨v, rfl, rv⟩ := rvs1 rs
    rw [int_ok rv]
    refine ⟨_, rfl, ?_⟩
    have e : (if i < 0 then -i else i) = (i.natAbs : Int) := by split <;> omega
    rw [e]
    exact w r H _ hr .refl rv_int
  · exact w.elim
def gcdF (ds : List D) (h : Cells) : Res D := match ds with
  | [.int a, .int b] => .ok (.int (Nat.gcd a.natAbs b.natAbs : Nat)) h
  | _ => .stuck
theorem calls_gcd : CallS K W rGcd gcdF := by
  intro r h H ds vs Q hr rs w
  unfold gcdF at w
  split at w
  · obtain ⟨v, u, rfl, rv, ru⟩ := rvs2 rs
    rw [int_ok rv, int_ok ru]
    exact ⟨_, _, rfl, w r H _ hr .refl rv_int⟩
  · exact w.elim
/-- sum of ints -/
def intsL : List D → Option (List Int) := intsOf
def sumF (ds : List D) (h : Cells) : Res D := match ds with
  | [d] => (match (lstOf h d).bind intsOf with
    | some ns => .ok (.int ns.sum) h
    | none => .stuck)
  | _ => .stuck
theorem ints_ok (hr : HRel K r h H) {d : D} {v : V} {ns : List Int} (rv : RV K r h H d v) (e : (lstOf h d).bind intsOf = some ns) : ∃ a, v = .ref a ∧ H a = some (.lst (ns.map V.int)) := by
  cases q : lstOf h d with
  | none => rw [q] at e; cases e
  | some xs =>
    rw [q] at e
    obtain ⟨a, vs, rfl, ea, y⟩ := lstOf_ok hr rv q
    have := intsOf_ok y e
    subst this
    exact ⟨a, rfl, ea⟩
theorem calls_sum : CallS K W (rSum K) sumF := by
  intro r h H ds vs Q hr rs w
  unfold sumF at w
  split at w
  · split at w
    · rename_i ns e
      obtain ⟨v, rfl, rv⟩ := rvs1 rs
      obtain ⟨a, rfl, ea⟩ := ints_ok hr rv e
      exact ⟨a, ns, rfl, .of ea, w r H _ hr .refl rv_int⟩
    · exact w.elim
  · exact w.elim
/-- all, any of lists of bools -/
def bools : List D → Option (List Bool)
  | [] => some []
  | .bl b :: r => (bools r).map (b :: ·)
  | _ => none
theorem bools_ok : ∀ {xs : List D} {vs : List V} {bs : List Bool}, RVs K r h H xs vs → bools xs = some bs → vs = bs.map V.bl
  | [], _, _, x, e => by cases e; exact x.of_nil
  | d :: ds, _, ns, x, e => by
    obtain ⟨v, w, rfl, a, b⟩ := x.of_cons
    cases d with
    | bl i =>
      simp only [bools, Option.map_eq_some_iff] at e
      obtain ⟨ms, e1, rfl⟩ := e
      rw [bl_ok a, bools_ok b e1]; rfl
    | _ => simp [bools] at e
def allF (ds : List D) (h : Cells) : Res D := match ds with
  | [d] => (match (lstOf h d).bind bools with
    | some bs => .ok (.bl (bs.all id)) h
    | none => .stuck)
  | _ => .stuck
def anyF (ds : List D) (h : Cells) : Res D := match ds with
  | [d] => (match (lstOf h d).bind bools with
    | some bs => .ok (.bl (bs.any id)) h
    | none => .stuck)
  | _ => .stuck
theorem blsL_ok (hr : HRel K r h H) {d : D} {v : V} {ns : List Bool} (rv : RV K r h H d v) (e : (lstOf h d).bind bools = some ns) : ∃ a, v = .ref a ∧ H a = some (.lst (ns.map V.bl)) := by
  cases q : lstOf h d with
  | none => rw [q] at e; cases e
  | some xs =>
    rw [q] at e
    obtain ⟨a, vs, rfl, ea, y⟩ := lstOf_ok hr rv q
    have := bools_ok y e
    subst this
    exact ⟨a, rfl, ea⟩
theorem calls_all : CallS K W (rAll K) allF := by
  intro r h H ds vs Q hr rs w
  unfold allF at w
  split at w
  · split at w
    · rename_i ns e
      obtain ⟨v, rfl, rv⟩ := rvs1 rs
      obtain ⟨a, rfl, ea⟩ := blsL_ok hr rv e
      exact ⟨a, ns, rfl, .of ea, w r H _ hr .refl rv_bl⟩
    · exact w.elim
  · exact w.elim
theorem calls_any : CallS K W (rAny K) anyF := by
  intro r h H ds vs Q hr rs w
  unfold anyF at w
  split at w
  · split at w
    · rename_i ns e
      obtain ⟨v, rfl, rv⟩ := rvs1 rs
      obtain ⟨a, rfl, ea⟩ := blsL_ok hr rv e
      exact ⟨a, ns, rfl, .of ea, w r H _ hr .refl rv_bl⟩
    · exact w.elim
  · exact w.elim
/-- list(xs), tuple(xs) -/
def listF (lv : Bool) (ds : List D) (h : Cells) : Res D := match ds with
  | [d] => (match seqOf h d with
    | some xs => alloc lv (.lst xs) h
    | none => .stuck)
  | _ => .stuck
theorem calls_list (lv : Bool) : CallS K W (fun xs H Q => ∃ p ys, xs = [.ref p] ∧ (SqL K H p ys ∨ SqT K H p ys) ∧ ∀ l, H l = none → Q (.ref l) (upd H l (.lst ys))) (listF lv) := by
  intro r h H ds vs Q hr rs w
  unfold listF at w
  split at w
  · split at w
    · rename_i xs e
      obtain ⟨v, rfl, rv⟩ := rvs1 rs
      obtain ⟨a, ws, rfl, ea, y⟩ := seqOf_ok hr rv e
      exact ⟨a, ws, rfl, ea.imp .of .of, alloc_lst hr y w⟩
    · exact w.elim
  · exact w.elim
def tupleF (ds : List D) (h : Cells) : Res D := match ds with
  | [.tup xs] => .ok (.tup xs) h
  | [d] => (match lstOf h d with
    | some xs => .ok (.tup xs) h
    | none => .stuck)
  | _ => .stuck
theorem calls_tuple : CallS K W (fun xs H Q => ∃ p ys, xs = [.ref p] ∧ ((SqL K H p ys ∧ ∀ l, H l = none → Q (.ref l) (upd H l (.tup ys))) ∨ (SqT K H p ys ∧ Q (.ref p) H))) tupleF := by
  intro r h H ds vs Q hr rs w
  unfold tupleF at w
  split at w
  · obtain ⟨v, rfl, rv⟩ := rvs1 rs
    obtain ⟨a, ws, rfl, ea, y⟩ := tup_ok rv
    exact ⟨a, ws, rfl, .inr ⟨.of ea, w r H _ hr .refl rv⟩⟩
  · split at w
    · rename_i xs e
      obtain ⟨v, rfl, rv⟩ := rvs1 rs
      obtain ⟨a, ws, rfl, ea, y⟩ := lstOf_ok hr rv e
      exact ⟨a, ws, rfl, .inl ⟨.of ea, new_tup hr y w⟩⟩
    · exact w.elim
  · exact w.elim
/-- isinstance(x, T), T built-in: bool is an int -/
def isaD (T : String) : D → Option Bool
  | .non => some false
  | .bl _ => some (T == "bool" || T == "int")
  | .int _ => some (T == "int")
  | .str _ => some (T == "str")
  | .tup _ => some (T == "tuple")
  | .lst _ => some (T == "list")
  | _ => none
end
/-- isinstance(x, T) -/
def rIsa (K : PySem.W.Frag) (T : String) : V → Hp → VK → Prop := fun x H Q => ∃ t b, TyOf K H x t ∧ PySem.W.kitOne K t (.type T) = some b ∧ Q (.bl b) H
theorem isa_ok {X : Cx} {K : PySem.W.Frag} {r : Rm} {h : Cells} {H : Hp} {d : D} {v : V} {T : String} {b : Bool} (rv : RV K r h H d v) (e : isaD T d = some b) (hT : T = "int" ∨ T = "bool" ∨ T = "str" ∨ T = "tuple" ∨ T = "list") :
    ∃ t, TyOf K H v t ∧ PySem.W.kitOne K t (.type T) = some b := by
  cases d with
  | non => simp only [RV] at rv; subst rv; cases e; refine ⟨_, .non, ?_⟩; rcases hT with rfl | rfl | rfl | rfl | rfl <;> rfl
  | bl a => simp only [RV] at rv; subst rv; cases e; refine ⟨_, .bl _, ?_⟩; rcases hT with rfl | rfl | rfl | rfl | rfl <;> rfl
  | int a => simp only [RV] at rv; subst rv; cases e; refine ⟨_, .int _, ?_⟩; rcases hT with rfl | rfl | rfl | rfl | rfl <;> rfl
  | str a => simp only [RV] at rv; subst rv; cases e; refine ⟨_, .str _, ?_⟩; rcases hT with rfl | rfl | rfl | rfl | rfl <;> rfl
  | tup a => simp only [RV] at rv; obtain ⟨a, vs, rfl, ea, _⟩ := rv; cases e; refine ⟨_, .tup ea, ?_⟩; rcases hT with rfl | rfl | rfl | rfl | rfl <;> rfl
  | lst a => simp only [RV] at rv; obtain ⟨a, vs, rfl, _, ea, _⟩ := rv; cases e; refine ⟨_, .lst ea, ?_⟩; rcases hT with rfl | rfl | rfl | rfl | rfl <;> rfl
  | _ => cases e
end Mi

/-! Mi5: isinstance, order and sorting of data, max, min. -/
namespace Mi
open PySem PySem.Spec PyProof.Rows L2

/-! ### isinstance -/
def rIsaX (K : PySem.W.Frag) : List V → Hp → VK → Prop := fun xs H Q => ∃ (x : V) (T : String) (t : Value) (b : Bool), xs = [x, .ty T] ∧ TyOf K H x t ∧ PySem.W.kitOne K t (.type T) = some b ∧ Q (.bl b) H
theorem call_isaX {X : Cx} : CallR X (.builtin "isinstance") (rIsaX X.K) := by
  intro pins s σ H xs us Q I r h
  obtain ⟨x, T, t, b, rfl, ty, e, q⟩ := h
  cases r with
  | cons rx rr =>
    cases rr with
    | cons rt rr =>
      cases rr
      cases rt
      exact isinst_ok I rx ty e fun tk => ⟨.bl b, H, I.kept (t' := tk) fun _ _ z => z, rfl, q⟩
def E_isa (T : String) (f : ME) : ME := fun m h => (f m h).bind fun d h1 => ofOpt ((isaD T (der h1 d)).map D.bl) h1
theorem isa_der {X : Cx} {K : PySem.W.Frag} {r : Rm} {h : Cells} {H : Hp} {d : D} {v : V} {T : String} {b : Bool} (hr : HRel K r h H) (rv : RV K r h H d v) (e : isaD T (der h d) = some b) (hT : T = "int" ∨ T = "bool" ∨ T = "str" ∨ T = "tuple" ∨ T = "list") :
    ∃ t, TyOf K H v t ∧ PySem.W.kitOne K t (.type T) = some b := by
  cases d with
  | ref k =>
    simp only [der] at e
    split at e
    · rename_i ys en
      obtain ⟨a, vs, rfl, ea, _⟩ := lstOf_ok hr rv (show lstOf h (.ref k) = some ys by simp only [lstOf, en])
      cases e
      refine ⟨_, .lst ea, ?_⟩
      rcases hT with rfl | rfl | rfl | rfl | rfl <;> rfl
    · cases e
  | _ => exact isa_ok (X := X) rv e hT
section
variable {X : Cx} {W : Wish} {a : Expr} {f : ME} {p p2 pos : Pos} {y : Str}
theorem pm_isa (T : String) (hT : T = "int" ∨ T = "bool" ∨ T = "str" ∨ T = "tuple" ∨ T = "list") (ha : PM X W a f) (hm : X.mg "isinstance" = none) (hm2 : X.mg y = none) (hg : Gl X "isinstance" := by rfl) (hg2 : Gl X y := by rfl)
    (hv : bootBuiltins y = some (.type T) := by decide +kernel) (hn : y ≠ "__name__" := by decide) (hdb : (y == ("__debug__" : Str)) = false := by decide)
    (h1 : starEach [a, .Name y p2] X.env = (false, eval a X.env) :: starEach [.Name y p2] X.env := by rfl) (hpl : (backTo pos (starEach [.Name y p2] X.env)).any (·.1) = false := by rfl) :
    PM X W (.Call (.Name "isinstance" p) [a, .Name y p2] [] pos) (E_isa T f) := by
  refine ⟨(pe_callB call_isaX hg hm (by decide +kernel) (pa_cons ha.pe (pa_cons (pe_bltn (v := .ty T) hg2 hm2 hv rfl hn hdb) pa_nil) h1) (by decide) (by decide) h1 hpl).imp fun σ H Q t => ?_⟩
  obtain ⟨r, h, m, x, w⟩ := tG.one (RR0 := RRv X.K) t
  refine ⟨r, h, m, x, w.imp fun v H1 ⟨r1, h1, d, hr, rd, w1⟩ => ?_⟩
  cases q : isaD T (der h1 d) with
  | none => rw [q] at w1; exact w1.elim
  | some b =>
    rw [q] at w1
    obtain ⟨t, ty, e⟩ := isa_der (X := X) hr rd q hT
    exact ⟨v, T, t, b, rfl, ty, e, w1 r1 H1 _ hr .refl rv_bl⟩
end

/-! ### order of alike data -/
open PySem.W in
def alikeD (a b : D) : Bool := alike (toP a) (toP b)
open PySem.W in
def ltDD (a b : D) : Bool := dataLt (toP a) (toP b)
def isNon : D → Bool
  | .non => true
  | _ => false
theorem toP_non {n : Nat} {d : D} (g : okD n d = true) (e : isNon d = false) : toP d ≠ .none := by
  cases d <;> first | (simp [toP]; done) | (simp [okD] at g; done) | (simp [isNon] at e)
/-- a < b of alike data -/
def ltA (h : Cells) (x y : D) : Option Bool := if okD 60 (der h x) = true ∧ okD 60 (der h y) = true ∧ alikeD (der h x) (der h y) = true ∧ isNon (der h x) = false then some (ltDD (der h x) (der h y)) else none
def rLtA (K : PySem.W.Frag) : R2 := fun x y H Q => ∃ d e, Dp K H x d ∧ Dp K H y e ∧ PySem.W.alike d e = true ∧ d ≠ .none ∧ d.depth ≤ 60 ∧ Q (.bl (PySem.W.dataLt d e)) H
theorem op_ltA {X : Cx} (hu : X.A.units + 65 < cLine) : OpR X (compareOp .Lt) (rLtA X.K) := by
  intro pins s σ H x y v u Q I rx ry h
  obtain ⟨d, e, hd, he, al, hn, hz, q⟩ := h
  obtain ⟨as, r1⟩ := Dp.reads I d x v hd rx
  obtain ⟨bs, r2⟩ := Dp.reads I e y u he ry
  exact PySem.W.lt_data r1 r2 al hn (by have := Nat.min_le_left d.depth e.depth; omega) ⟨.bl _, H, I, rfl, q⟩
theorem cmp_ltA {K : PySem.W.Frag} : CmpS K (rLtA K) ltA := by
  intro r h H d e v w k Q hr rd re e1 q
  unfold ltA at e1
  split at e1
  · rename_i g
    cases e1
    exact ⟨_, _, dp_der hr g.1 rd, dp_der hr g.2.1 re, g.2.2.1, toP_non g.1 g.2.2.2, (okD_lay g.1).2, q⟩
  · cases e1

/-! ### sorted -/
section
variable {prog : Program} {w : World} {A : Around} {E : Value → Shared → Prop} {s : Shared}
theorem collect_tup {l : Addr} {vs : List Value} {Q : List Value → Shared → Prop} (hl : IsTup s.heap l vs.toArray)
    (h : Q vs { s with heap := (s.heap.push (seqObj "list" #[] 0)).update s.heap.objs.size (Obj.mapSeq (· ++ vs.toArray)) }) (hsz : vs.length ≤ sizeLine := by size_fits) :
    wpAny (model prog w) A (collect (.ref l)) Q E s := by
  obtain ⟨o, ho, hc, n, hd⟩ := id hl
  unfold collect
  refine wpAny_bind (wpAny_runValue (codeAny_builtin entry_proto_collect' ?_))
  show wpAny _ _ (do again (.builtin "list.__iadd__" ⟨[← newList [], .ref l], []⟩)) _ _ s
  refine wpAny_bind (wpAny_newList (wpAny_pure ⟨Code.quiet_builtin _ (by decide +kernel), codeAny_builtin entry_list_iadd' ?_⟩))
  show wpAny _ _ (Builtin.List.listExtendWith (.ref s.heap.objs.size) (.ref l) (.ref s.heap.objs.size)) _ _ { s with heap := s.heap.push (seqObj "list" #[] 0) }
  unfold Builtin.List.listExtendWith
  have ho' : (s.heap.push (seqObj "list" #[] 0)).get? l = some o := Heap.get?_push_of_some _ ho
  refine wpAny_bind (wpAny_typeOf (T := "tuple") ⟨o, ho', hc⟩ ?_)
  have ht : (Value.type "tuple" == Value.type "tuple") = true := by rfl
  rw [if_pos (by rw [ht]; simp)]
  refine wpAny_bind (listItems_at ho' hd ?_)
  refine wpAny_bind (listItems_at (xs := #[]) (n := 0) (Heap.get?_push_size _ rfl) rfl ?_)
  rw [if_neg (by simp)]
  refine wpAny_bind (listUpdate_at (xs := #[]) (n := 0) (Heap.get?_push_size _ rfl) rfl ?_ (Nat.zero_le _) (by show (#[] ++ vs.toArray).size ≤ sizeLine + 1; simp only [Array.size_append, List.size_toArray, List.length_nil]; omega))
  refine wpAny_pure ?_
  show wpAny (model prog w) A (do
      let o ← load s.heap.objs.size
      match o.data with
      | .seq xs _ => pure xs.toList
      | _ => unsupported "internal:collect") Q E { s with heap := (s.heap.push (seqObj "list" #[] 0)).update s.heap.objs.size (Obj.mapSeq (· ++ vs.toArray)) }
  refine wpAny_bind (wpAny_load (get?_update_seq (Heap.get?_push_size _ rfl) _) ?_)
  show wpAny _ _ (pure ((#[] : Array Value) ++ vs.toArray).toList) Q E _
  rw [show ((#[] : Array Value) ++ vs.toArray).toList = vs by simp]
  exact wpAny_pure h
open PySem.W in
theorem sorted_of_sortC {l : Addr} {vs : List Value} {Q : Value → Shared → Prop} (hl : s.heap.IsList l vs.toArray ∨ IsTup s.heap l vs.toArray) (hL : vs.length ≤ sizeLine)
    (body : ∀ E' : Value → Shared → Prop, wpAny (model prog w) A.in1.in1 (Builtin.«list.sort» ⟨[.ref (s.heap.objs.size + 1)], []⟩) (fun f s' => f = .done (.ret .none) ∧ Q (.ref (s.heap.objs.size + 1)) s') E' { s with heap := copyHeap s.heap vs }) :
    wpAny (model prog w) A (call (.builtin "sorted") [.ref l] []) Q E s := by
  refine call_function_entry_kw kind_sorted plain_sorted entry_sorted (args_sorted1 _) ?_
  unfold Builtin.«sorted»
  refine wpAny_bind (m := checkCount "sorted" 1 1 _) (wpAny_pure ?_)
  refine wpAny_bind ?_
  have go : wpAny (model prog w) A.in1 (collect (.ref l)) (fun us s' => us = vs ∧ s' = { s with heap := (s.heap.push (seqObj "list" #[] 0)).update s.heap.objs.size (Obj.mapSeq (· ++ vs.toArray)) }) (fun _ _ => False) s := by
    rcases hl with hl | hl
    · exact collect_list hl ⟨rfl, rfl⟩ hL
    · exact collect_tup hl ⟨rfl, rfl⟩ hL
  refine wpAny_mono go (fun us s' ⟨e1, e2⟩ => ?_) fun _ _ z => z.elim
  subst e1 e2
  refine wpAny_bind (wpAny_newList ?_ hL)
  have hsz : ((s.heap.push (seqObj "list" #[] 0)).update s.heap.objs.size (Obj.mapSeq (· ++ us.toArray))).objs.size = s.heap.objs.size + 1 := by
    rw [Heap.size_update, size_push']
  show wpAny _ _ _ _ _ { s with heap := copyHeap s.heap us }
  rw [hsz]
  refine wpAny_bind (wpAny_holding (wpAny_call_entry_kw slot_list_sort ⟨_, copyHeap_at s.heap us, rfl⟩ entry_list_sort ?body (args_list_sort _)))
  case body =>
    show wpAny (model prog w) A.in1.in1 (Builtin.«list.sort» ⟨[.ref (s.heap.objs.size + 1)], []⟩) _ _ _
    refine wpAny_mono (body _) (fun f s' hf => ?_) fun _ _ e => e
    obtain ⟨rfl, hq⟩ := hf
    exact ⟨_, rfl, wpAny_pure ⟨_, rfl, hq⟩⟩
open PySem.W in
theorem sorted_dataC {β : Type} {vs : List Value} {bs : List β} {enc : β → PyData} {R : Value → β → Prop} {l : Addr} {Q : Value → Shared → Prop} (hl : s.heap.IsList l vs.toArray ∨ IsTup s.heap l vs.toArray) (e : EachIs R vs bs) (er : EachIs (fun v b => ∃ as, Reads s.heap v (enc b) as) vs bs) (hal : AllAlike (bs.map enc)) (hk : Sortable (bs.map enc)) (hL : bs.length ≤ sizeLine)
    (hu : ∀ b, b ∈ bs → A.units + 2 + (enc b).depth < cLine) (h : ∀ out, out.length = bs.length → EachIs R out (bs.mergeSort (dataLe false enc)) → Q (.ref (s.heap.objs.size + 1)) { s with heap := sortedAll s.heap vs (List.toArray out) }) :
    wpAny (model prog w) A (call (.builtin "sorted") [.ref l]) Q E s := by
  have er' : EachIs (fun v b => ∃ as, Reads (sortingHeap (copyHeap s.heap vs) (s.heap.objs.size + 1) vs) v (enc b) as) vs bs := er.mono fun _ _ ⟨as, r⟩ => ⟨as, PyProof.Rows.Reads.keeps (fun _ _ => sorting_copy_old) r⟩
  have S := SortsAt.data (prog := prog) (w := w) (A := A.in1.in1) (s := { s with heap := sortingHeap (copyHeap s.heap vs) (s.heap.objs.size + 1) vs }) (each_map (R := fun v d => ∃ as, Reads (sortingHeap (copyHeap s.heap vs) (s.heap.objs.size + 1) vs) v d as) enc er') hal hk (bound_map hu)
  refine sorted_of_sortC hl (by rw [e.length]; exact hL) fun _ => list_sort_vals (s := { s with heap := copyHeap s.heap vs }) (copyHeap_at s.heap vs) S (by rw [e.length]; exact hL) ⟨rfl, ?_⟩
  exact h _ (by rw [sortVals_length false rfl]; exact e.length) (sortVals_data false e er' hal)
end
open PySem.W in
/-- sorted(xs) of data -/
def rSortG (K : PySem.W.Frag) : List V → Hp → VK → Prop := fun ws H Q => ∃ (a : Addr) (xs : List V) (ps : List PyData), ws = [V.ref a] ∧ (SqL K H a xs ∨ SqT K H a xs) ∧ DpAll K H xs ps ∧ AllAlike ps ∧ Sortable ps ∧ (∀ p ∈ ps, p.depth ≤ 60) ∧
  ∀ p, H p = none → Q (.ref p) (upd H p (.lst (((xs.zip ps).mergeSort (dataLe false Prod.snd)).map Prod.fst)))
theorem DpAll.length {K : PySem.W.Frag} {H : Hp} : ∀ {xs : List V} {ps : List PyData}, DpAll K H xs ps → xs.length = ps.length
  | _, _, .nil => rfl
  | _, _, .cons _ h => by rw [List.length_cons, List.length_cons, DpAll.length h]
open PySem.W in
theorem each_reads {X : Cx} {pins : List (Addr × Obj)} {σ : L2.St} {H : Hp} {s : Shared} (I : Inv X pins σ H s) : ∀ {xs : List V} {us : List Value} {ps : List PyData}, Vals xs us → DpAll X.K H xs ps →
    EachIs (fun (v : Value) (b : V × PyData) => RelV b.1 v) us (xs.zip ps) ∧ EachIs (fun (v : Value) (b : V × PyData) => ∃ as, Reads s.heap v b.2 as) us (xs.zip ps)
  | _, _, _, .nil, .nil => ⟨.nil, .nil⟩
  | _, _, _, .cons r rs, .cons d ds => by
    obtain ⟨q1, q2⟩ := each_reads I rs ds
    exact ⟨.cons r q1, .cons (Dp.reads I _ _ _ d r) q2⟩
open PySem.W in
theorem vals_each : ∀ {us : List Value} {bs : List (V × PyData)}, EachIs (fun (v : Value) (b : V × PyData) => RelV b.1 v) us bs → Vals (bs.map Prod.fst) us
  | _, _, .nil => .nil
  | _, _, .cons h t => .cons h (vals_each t)
open PySem.W in
theorem cr_sortG {X : Cx} (hu : X.A.units + 65 < cLine) : CallR X (.builtin "sorted") (rSortG X.K) := by
  intro pins s σ H ws us Q I r h
  obtain ⟨a, xs, ps, rfl, hs, dp, al, so, dep, q⟩ := h
  rw [Vals.ref1 r]
  obtain ⟨its, rv, hl, hz⟩ : ∃ its : List Value, Vals xs its ∧ (s.heap.IsList a its.toArray ∨ IsTup s.heap a its.toArray) ∧ xs.length ≤ sizeLine := by
    rcases hs with hs | hs
    · obtain ⟨its, rv, hl, hz⟩ := I.list hs
      exact ⟨its, rv, .inl hl.isList, hz⟩
    · obtain ⟨its, rv, hl, hz⟩ := I.tuple hs
      exact ⟨its, rv, .inr hl, hz⟩
  obtain ⟨e, er⟩ := each_reads I rv dp
  have hl2 := DpAll.length dp
  have em : (xs.zip ps).map Prod.snd = ps := List.map_snd_zip (by omega)
  refine sorted_dataC (bs := xs.zip ps) (enc := Prod.snd) hl e er (by rw [em]; exact al) (by rw [em]; exact so) (by rw [List.length_zip]; omega) (fun b hb => ?_) fun out h1 h2 => ?_
  · have := dep b.2 (List.of_mem_zip (a := b.1) (b := b.2) hb).2
    omega
  · obtain ⟨ep, he'⟩ := PyProof.Rows.sortedAll_at s.heap its out.toArray
    have hlen : (((xs.zip ps).mergeSort (dataLe false Prod.snd)).map Prod.fst).length ≤ sizeLine := by
      rw [List.length_map, List.length_mergeSort, List.length_zip]; omega
    exact ⟨.ref _, upd H (s.heap.objs.size + 1) (.lst (((xs.zip ps).mergeSort (dataLe false Prod.snd)).map Prod.fst)), I.laid (t' := s.toks) (fun _ _ => PyProof.Rows.sortedAll_old) (Nat.le_succ _) ⟨hlen, out, ep, vals_each h2, he'⟩, rfl, q _ (I.hok.fresh (Nat.le_succ _))⟩
/-- not b < a -/
def leD (a b : D) : Bool := !ltDD b a
def sortD (xs : List D) : List D := xs.mergeSort leD
def isTup1 : D → Bool
  | .tup (_ :: _) => true
  | _ => false
def notTN : D → Bool
  | .tup _ => false
  | .non => false
  | _ => true
/-- what can be sorted -/
def sortOk (xs : List D) : Bool := okDs 59 xs && (xs.all fun a => xs.all fun b => alikeD a b) && (xs.all isTup1 || xs.all notTN)
section
variable {K : PySem.W.Frag} {W : Wish} {r : Rm} {h : Cells} {H : Hp}
theorem toPs_map : ∀ xs : List D, toPs xs = xs.map toP
  | [] => rfl
  | x :: xs => by rw [toPs, toPs_map xs]; rfl
theorem okDs_mem {n : Nat} : ∀ {xs : List D}, okDs n xs = true → ∀ x ∈ xs, okD n x = true
  | [], _, x, h => by simp at h
  | y :: ys, g, x, h => by
    simp only [okDs, Bool.and_eq_true] at g
    rcases List.mem_cons.mp h with rfl | h
    · exact g.1
    · exact okDs_mem g.2 x h
open PySem.W in
theorem sort_rvs {xs : List D} {vs : List V} (y : RVs K r h H xs vs) : RVs K r h H (sortD xs) (((vs.zip (toPs xs)).mergeSort (dataLe false Prod.snd)).map Prod.fst) := by
  have e1 : ∀ {xs : List D} {vs : List V}, RVs K r h H xs vs → EachIs (fun (b : V × PyData) d => RV K r h H d b.1 ∧ b.2 = toP d) (vs.zip (toPs xs)) xs := by
    intro xs
    induction xs with
    | nil => intro vs y; rw [y.of_nil]; exact .nil
    | cons x xs ih =>
      intro vs y
      obtain ⟨v, w, rfl, a, b⟩ := y.of_cons
      exact .cons ⟨a, rfl⟩ (ih b)
  have e2 : ∀ {bs : List (V × PyData)} {ds : List D}, EachIs (fun (b : V × PyData) d => RV K r h H d b.1 ∧ b.2 = toP d) bs ds → RVs K r h H ds (bs.map Prod.fst) := by
    intro bs ds q
    induction q with
    | nil => exact RVs.nil
    | cons a _ ih => exact RVs.cons a.1 ih
  refine e2 (sort_each (e1 y) fun p hp q hq => ?_)
  have h1 := ((e1 y).zip p hp).2
  have h2 := ((e1 y).zip q hq).2
  show dataLe false Prod.snd p.1 q.1 = leD p.2 q.2
  rw [dataLe_eq]
  show (!dataLt q.1.2 p.1.2) = _
  rw [h1, h2]; rfl
def sortedF (lv : Bool) (ds : List D) (h : Cells) : Res D := match ds with
  | [d] => (match seqOf h d with
    | some xs => if sortOk xs = true then alloc lv (.lst (sortD xs)) h else .stuck
    | none => .stuck)
  | _ => .stuck
open PySem.W in
theorem calls_sorted (lv : Bool) : CallS K W (rSortG K) (sortedF lv) := by
  intro r h H ds vs Q hr rs w
  unfold sortedF at w
  split at w
  · split at w
    · rename_i xs e
      split at w
      · rename_i g
        obtain ⟨v, rfl, rv⟩ := rvs1 rs
        obtain ⟨a, ws, rfl, ea, y⟩ := seqOf_ok hr rv e
        simp only [sortOk, Bool.and_eq_true, Bool.or_eq_true, List.all_eq_true] at g
        obtain ⟨⟨g1, g2⟩, g3⟩ := g
        refine ⟨a, ws, toPs xs, rfl, ea.imp .of .of, dps_of g1 y, ?_, ?_, ?_, fun p hp => alloc_lst hr (sort_rvs y) w p hp⟩
        · rw [toPs_map]
          intro d hd d' hd'
          obtain ⟨b, hb, rfl⟩ := List.mem_map.mp hd
          obtain ⟨b', hb', rfl⟩ := List.mem_map.mp hd'
          exact g2 b hb b' hb'
        · rw [toPs_map]
          rcases g3 with g3 | g3
          · refine .inl fun d hd => ?_
            obtain ⟨b, hb, rfl⟩ := List.mem_map.mp hd
            have := g3 b hb
            cases b with
            | tup zs =>
              cases zs with
              | nil => simp [isTup1] at this
              | cons z zs => exact ⟨toP z, toPs zs, by simp only [toP, toPs]⟩
            | _ => simp [isTup1] at this
          · refine .inr fun d hd => ?_
            obtain ⟨b, hb, rfl⟩ := List.mem_map.mp hd
            have t := g3 b hb
            have o := okDs_mem g1 b hb
            cases b <;> simp [notTN, okD, toP] at t o ⊢
        · rw [toPs_map]
          intro p hp
          obtain ⟨b, hb, rfl⟩ := List.mem_map.mp hp
          have := (okD_lay (okDs_mem g1 b hb)).2
          omega
      · exact w.elim
    · exact w.elim
  · exact w.elim
end

/-! ### max, min of two data, of a list -/
theorem pick2 {a b v : Value} {bt : Nat → Nat → Bool} (h : (#[a, b] : Array Value)[argBest bt 1]? = some v) : v = if bt 1 0 = true then b else a := by
  have e : argBest bt 1 = if bt 1 0 = true then 1 else 0 := rfl
  rw [e] at h
  cases q : bt 1 0 <;> rw [q] at h <;> simp at h ⊢ <;> exact h.symm
section
variable {prog : Program} {w : World} {A : Around} {E : Value → Shared → Prop} {s : Shared}
open PySem.W in
theorem call_min_twoD {a b : Value} {x y : PyData} {as bs : List Addr} {Q : Value → Shared → Prop} (hh : A.handled = none) (ra : Reads s.heap a x as) (rb : Reads s.heap b y bs) (ha : AlikeAll [x, y]) (hu : A.units + 1 + PyData.depthAll [x, y] < cLine)
    (h : ∀ h' tk, (∀ b o, s.heap.get? b = some o → h'.get? b = some o) → Q (if dataLt y x = true then b else a) { s with heap := h', toks := tk }) : wpAny (model prog w) A (call (.builtin "min") [a, b]) Q E s := by
  have hname : (toString "min" ++ toString ".loop" : String) = "min.loop" := by decide
  refine call_function_tree F.kind_min F.plain_min F.entry_min (F.args_min2 _ _) ?_
  show wpAny _ A.in1 (Builtin.Builtins.bindParams "min" ["key", "default"] 0 ⟨[], []⟩ >>= _) _ _ s
  refine wpAny_bind (wpAny_of_eq (show Builtin.Builtins.bindParams "min" ["key", "default"] 0 ⟨[], []⟩ = pure [none, none] from rfl) ?_)
  show wpAny _ A.in1 (newTuple [a, b] >>= _) _ _ s
  refine wpAny_bind (wpAny_newObj_type ?_)
  refine wpAny_bind (iter_tupleW (A := A.in1) (s := { s with heap := s.heap.push { cls := .type "tuple", data := .seq #[a, b] } }) (vs := #[a, b]) hh ⟨_, Heap.get?_push_size _ rfl, rfl, _, rfl⟩ fun s2 e W st hfp hw hk => ?_)
  refine wpAny_bind (wpAny_newObj_type ?_)
  have hr : ReadsAll (s.heap.push { cls := .type "tuple", data := .seq #[a, b] }) (#[a, b] : Array Value).toList [x, y] (as ++ (bs ++ [])) :=
    .cons (reads_keeps (fun b o e => Heap.get?_push_of_some _ e) ra) (.cons (reads_keeps (fun b o e => Heap.get?_push_of_some _ e) rb) .nil)
  have hSf : s2.heap.objs.size ∉ [(s.heap.push { cls := .type "tuple", data := .seq #[a, b] } : Heap).objs.size, s.heap.objs.size] := fun hm => Nat.lt_irrefl _ (hfp _ hm)
  rw [hname]
  refine wpAny_pure ⟨plainId_quiet F.plain_min_loop _, codeAny_min_loop_firstH W (s.heap.push { cls := .type "tuple", data := .seq #[a, b] }) hw (fun i j => dataLt ([x, y].getD i .none) ([x, y].getD j .none)) (cmpIn_lt (s := { s with heap := s.heap.push { cls := .type "tuple", data := .seq #[a, b] } }) (A := A.in1) hr ha (by show A.units + 1 + _ < _; exact hu)) s2.heap.objs.size hSf (fresh_in hk) _ (Nat.succ_pos _) (fun b o e => Heap.get?_push_of_some _ (hk b o e)) (W.frame 0 s2 _ s2.toks st (Nat.le_refl _) fun b _ o e => Heap.get?_push_of_some _ e) (Heap.get?_push_size _ rfl) fun v s' hP hm => ?_⟩
  obtain ⟨h', tk, rfl, hk'⟩ := moved_old e rfl (Moved.drop_new (tk := s2.toks) hm (Nat.le_refl _))
  have hv : v = if dataLt y x = true then b else a := by
    exact pick2 (bt := fun i j => dataLt ([x, y].getD i .none) ([x, y].getD j .none)) hP
  subst hv
  exact h h' tk fun b o eb => hk' b o (Heap.get?_push_of_some _ eb)
open PySem.W in
theorem call_max_twoD {a b : Value} {x y : PyData} {as bs : List Addr} {Q : Value → Shared → Prop} (hh : A.handled = none) (ra : Reads s.heap a x as) (rb : Reads s.heap b y bs) (ha : AlikeAll [x, y]) (hu : A.units + 1 + PyData.depthAll [x, y] < cLine)
    (h : ∀ h' tk, (∀ b o, s.heap.get? b = some o → h'.get? b = some o) → Q (if dataLt x y = true then b else a) { s with heap := h', toks := tk }) : wpAny (model prog w) A (call (.builtin "max") [a, b]) Q E s := by
  have hname : (toString "max" ++ toString ".loop" : String) = "max.loop" := by decide
  refine call_function_tree F.kind_max F.plain_max F.entry_max (F.args_max2 _ _) ?_
  show wpAny _ A.in1 (Builtin.Builtins.bindParams "max" ["key", "default"] 0 ⟨[], []⟩ >>= _) _ _ s
  refine wpAny_bind (wpAny_of_eq (show Builtin.Builtins.bindParams "max" ["key", "default"] 0 ⟨[], []⟩ = pure [none, none] from rfl) ?_)
  show wpAny _ A.in1 (newTuple [a, b] >>= _) _ _ s
  refine wpAny_bind (wpAny_newObj_type ?_)
  refine wpAny_bind (iter_tupleW (A := A.in1) (s := { s with heap := s.heap.push { cls := .type "tuple", data := .seq #[a, b] } }) (vs := #[a, b]) hh ⟨_, Heap.get?_push_size _ rfl, rfl, _, rfl⟩ fun s2 e W st hfp hw hk => ?_)
  refine wpAny_bind (wpAny_newObj_type ?_)
  have hr : ReadsAll (s.heap.push { cls := .type "tuple", data := .seq #[a, b] }) (#[a, b] : Array Value).toList [x, y] (as ++ (bs ++ [])) :=
    .cons (reads_keeps (fun b o e => Heap.get?_push_of_some _ e) ra) (.cons (reads_keeps (fun b o e => Heap.get?_push_of_some _ e) rb) .nil)
  have hSf : s2.heap.objs.size ∉ [(s.heap.push { cls := .type "tuple", data := .seq #[a, b] } : Heap).objs.size, s.heap.objs.size] := fun hm => Nat.lt_irrefl _ (hfp _ hm)
  rw [hname]
  refine wpAny_pure ⟨plainId_quiet F.plain_max_loop _, codeAny_max_loop_firstH W (s.heap.push { cls := .type "tuple", data := .seq #[a, b] }) hw (fun i j => dataLt ([x, y].getD j .none) ([x, y].getD i .none)) (cmpIn_gt (s := { s with heap := s.heap.push { cls := .type "tuple", data := .seq #[a, b] } }) (A := A.in1) hr ha (by show A.units + 1 + _ < _; exact hu)) s2.heap.objs.size hSf (fresh_in hk) _ (Nat.succ_pos _) (fun b o e => Heap.get?_push_of_some _ (hk b o e)) (W.frame 0 s2 _ s2.toks st (Nat.le_refl _) fun b _ o e => Heap.get?_push_of_some _ e) (Heap.get?_push_size _ rfl) fun v s' hP hm => ?_⟩
  obtain ⟨h', tk, rfl, hk'⟩ := moved_old e rfl (Moved.drop_new (tk := s2.toks) hm (Nat.le_refl _))
  have hv : v = if dataLt x y = true then b else a := by
    exact pick2 (bt := fun i j => dataLt ([x, y].getD j .none) ([x, y].getD i .none)) hP
  subst hv
  exact h h' tk fun b o eb => hk' b o (Heap.get?_push_of_some _ eb)
end
open PySem.W in
def rTwoD (K : PySem.W.Frag) (mx : Bool) : List V → Hp → VK → Prop := fun ws H Q => ∃ (v u : V) (x y : PyData), ws = [v, u] ∧ Dp K H v x ∧ Dp K H u y ∧ AlikeAll [x, y] ∧ x.depth ≤ 60 ∧ y.depth ≤ 60 ∧
  Q (if (if mx then dataLt x y else dataLt y x) = true then u else v) H
theorem cr_min2D {X : Cx} (hc : X.calm = true) (hu : X.A.units + 65 < cLine) : CallR X (.builtin "min") (rTwoD X.K false) := by
  intro pins s σ H ws us Q I r h
  obtain ⟨v, u, x, y, rfl, d1, d2, al, z1, z2, q⟩ := h
  obtain ⟨a, b, rfl, ra, rb⟩ := vals2 r
  obtain ⟨as, r1⟩ := Dp.reads I x v a d1 ra
  obtain ⟨bs, r2⟩ := Dp.reads I y u b d2 rb
  refine call_min_twoD (I.ok.hd hc) r1 r2 al (by simp only [PyData.depthAll]; omega) fun h' tk k => ⟨_, H, I.kept (t' := tk) k, ?_, q⟩
  simp only [Bool.false_eq_true, if_false]
  split
  · exact rb
  · exact ra
theorem cr_max2D {X : Cx} (hc : X.calm = true) (hu : X.A.units + 65 < cLine) : CallR X (.builtin "max") (rTwoD X.K true) := by
  intro pins s σ H ws us Q I r h
  obtain ⟨v, u, x, y, rfl, d1, d2, al, z1, z2, q⟩ := h
  obtain ⟨a, b, rfl, ra, rb⟩ := vals2 r
  obtain ⟨as, r1⟩ := Dp.reads I x v a d1 ra
  obtain ⟨bs, r2⟩ := Dp.reads I y u b d2 rb
  refine call_max_twoD (I.ok.hd hc) r1 r2 al (by simp only [PyData.depthAll]; omega) fun h' tk k => ⟨_, H, I.kept (t' := tk) k, ?_, q⟩
  simp only [if_true]
  split
  · exact rb
  · exact ra
/-- max(a, b), min(a, b) -/
def twoF (mx : Bool) (ds : List D) (h : Cells) : Res D := match ds with
  | [.int i, .int j] => .ok (.int (if mx then max i j else min i j)) h
  | [d, e] => if okD 60 d = true ∧ okD 60 e = true ∧ alikeD d e = true ∧ alikeD e d = true ∧ alikeD d d = true ∧ alikeD e e = true ∧ isNon d = false ∧ isNon e = false then .ok (if (if mx then ltDD d e else ltDD e d) = true then e else d) h else .stuck
  | _ => .stuck
section
variable {K : PySem.W.Frag} {W : Wish}
theorem dataLt_ii (i j : Int) : PySem.W.dataLt (.int i) (.int j) = decide (i < j) := PySem.W.dataLt_int i j
theorem calls_two (mx : Bool) : CallS K W (rTwoD K mx) (twoF mx) := by
  intro r h H ds vs Q hr rs w
  unfold twoF at w
  split at w
  · rename_i i j
    obtain ⟨v, u, rfl, rv, ru⟩ := rvs2 rs
    rw [int_ok rv, int_ok ru]
    refine ⟨_, _, .int i, .int j, rfl, .int i, .int j, ?_, by simp [PyData.depth], by simp [PyData.depth], ?_⟩
    · refine ⟨fun x hx y hy => ?_, fun x hx => ?_⟩
      · simp only [List.mem_cons, List.not_mem_nil, or_false] at hx hy
        rcases hx with rfl | rfl <;> rcases hy with rfl | rfl <;> simp [PySem.W.alike]
      · simp only [List.mem_cons, List.not_mem_nil, or_false] at hx
        rcases hx with rfl | rfl <;> simp
    · refine w r H _ hr .refl ?_
      rw [dataLt_ii, dataLt_ii]
      cases mx with
      | true =>
        simp only [if_true, decide_eq_true_eq, RRv, RV]
        split <;> (congr 1; omega)
      | false =>
        simp only [Bool.false_eq_true, if_false, decide_eq_true_eq, RRv, RV]
        split <;> (congr 1; omega)
  · rename_i d e _
    split at w
    · rename_i g
      obtain ⟨v, u, rfl, rv, ru⟩ := rvs2 rs
      obtain ⟨g1, g2, a1, a2, a3, a4, n1, n2⟩ := g
      refine ⟨v, u, toP d, toP e, rfl, dp_of g1 rv, dp_of g2 ru, ⟨fun x hx y hy => ?_, fun x hx => ?_⟩, (okD_lay g1).2, (okD_lay g2).2, w r H _ hr .refl ?_⟩
      · simp only [List.mem_cons, List.not_mem_nil, or_false] at hx hy
        rcases hx with rfl | rfl <;> rcases hy with rfl | rfl <;> assumption
      · simp only [List.mem_cons, List.not_mem_nil, or_false] at hx
        rcases hx with rfl | rfl
        · exact toP_non g1 n1
        · exact toP_non g2 n2
      · show RV K r h H _ _
        have e1 : PySem.W.dataLt (toP d) (toP e) = ltDD d e := rfl
        have e2 : PySem.W.dataLt (toP e) (toP d) = ltDD e d := rfl
        rw [e1, e2]
        cases mx with
        | true =>
          simp only [if_true]
          split
          · exact ru
          · exact rv
        | false =>
          simp only [Bool.false_eq_true, if_false]
          split
          · exact ru
          · exact rv
    · exact w.elim
  · exact w.elim
/-- max(xs), min(xs) of a list of ints, not empty -/
def maxL : List Int → Int
  | [] => 0
  | x :: r => r.foldl max x
def minL : List Int → Int
  | [] => 0
  | x :: r => r.foldl min x
theorem foldl_max_ge (r : List Int) : ∀ x : Int, x ≤ r.foldl max x ∧ (∀ y ∈ r, y ≤ r.foldl max x) ∧ (r.foldl max x = x ∨ r.foldl max x ∈ r) := by
  induction r with
  | nil => intro x; simp
  | cons z r ih =>
    intro x
    obtain ⟨h1, h2, h3⟩ := ih (max x z)
    simp only [List.foldl_cons]
    refine ⟨by omega, fun y hy => ?_, ?_⟩
    · rcases List.mem_cons.mp hy with rfl | hy
      · omega
      · exact h2 y hy
    · rcases h3 with h3 | h3
      · by_cases c : x ≤ z
        · right; rw [h3]; simp [show max x z = z by omega]
        · left; rw [h3]; omega
      · right; exact List.mem_cons_of_mem _ h3
theorem foldl_min_le (r : List Int) : ∀ x : Int, r.foldl min x ≤ x ∧ (∀ y ∈ r, r.foldl min x ≤ y) ∧ (r.foldl min x = x ∨ r.foldl min x ∈ r) := by
  induction r with
  | nil => intro x; simp
  | cons z r ih =>
    intro x
    obtain ⟨h1, h2, h3⟩ := ih (min x z)
    simp only [List.foldl_cons]
    refine ⟨by omega, fun y hy => ?_, ?_⟩
    · rcases List.mem_cons.mp hy with rfl | hy
      · omega
      · exact h2 y hy
    · rcases h3 with h3 | h3
      · by_cases c : z ≤ x
        · right; rw [h3]; simp [show min x z = z by omega]
        · left; rw [h3]; omega
      · right; exact List.mem_cons_of_mem _ h3
theorem maxL_ok {ns : List Int} (h : 0 < ns.length) : maxL ns ∈ ns ∧ ∀ y ∈ ns, y ≤ maxL ns := by
  cases ns with
  | nil => simp at h
  | cons x r =>
    obtain ⟨h1, h2, h3⟩ := foldl_max_ge r x
    refine ⟨?_, fun y hy => ?_⟩
    · show r.foldl max x ∈ x :: r
      rcases h3 with h3 | h3
      · rw [h3]; exact List.mem_cons_self
      · exact List.mem_cons_of_mem _ h3
    · rcases List.mem_cons.mp hy with rfl | hy
      · exact h1
      · exact h2 y hy
theorem minL_ok {ns : List Int} (h : 0 < ns.length) : minL ns ∈ ns ∧ ∀ y ∈ ns, minL ns ≤ y := by
  cases ns with
  | nil => simp at h
  | cons x r =>
    obtain ⟨h1, h2, h3⟩ := foldl_min_le r x
    refine ⟨?_, fun y hy => ?_⟩
    · show r.foldl min x ∈ x :: r
      rcases h3 with h3 | h3
      · rw [h3]; exact List.mem_cons_self
      · exact List.mem_cons_of_mem _ h3
    · rcases List.mem_cons.mp hy with rfl | hy
      · exact h1
      · exact h2 y hy
def maxF (ds : List D) (h : Cells) : Res D := match ds with
  | [d] => (match (lstOf h d).bind intsOf with
    | some ns => if 0 < ns.length then .ok (.int (maxL ns)) h else .stuck
    | none => .stuck)
  | _ => .stuck
def minF (ds : List D) (h : Cells) : Res D := match ds with
  | [d] => (match (lstOf h d).bind intsOf with
    | some ns => if 0 < ns.length then .ok (.int (minL ns)) h else .stuck
    | none => .stuck)
  | _ => .stuck
theorem calls_max : CallS K W (rMax K) maxF := by
  intro r h H ds vs Q hr rs w
  unfold maxF at w
  split at w
  · split at w
    · rename_i ns e
      split at w
      · rename_i hp
        obtain ⟨v, rfl, rv⟩ := rvs1 rs
        obtain ⟨a, rfl, ea⟩ := ints_ok hr rv e
        refine ⟨a, ns, rfl, .of ea, hp, fun m h1 h2 => ?_⟩
        have e3 : m = maxL ns := by
          have := maxL_ok hp
          have a1 := h2 _ this.1
          have a2 := this.2 _ h1
          omega
        subst e3
        exact w r H _ hr .refl rv_int
      · exact w.elim
    · exact w.elim
  · exact w.elim
theorem calls_min : CallS K W (rMin K) minF := by
  intro r h H ds vs Q hr rs w
  unfold minF at w
  split at w
  · split at w
    · rename_i ns e
      split at w
      · rename_i hp
        obtain ⟨v, rfl, rv⟩ := rvs1 rs
        obtain ⟨a, rfl, ea⟩ := ints_ok hr rv e
        refine ⟨a, ns, rfl, .of ea, hp, fun m h1 h2 => ?_⟩
        have e3 : m = minL ns := by
          have := minL_ok hp
          have a1 := h2 _ this.1
          have a2 := this.2 _ h1
          omega
        subst e3
        exact w r H _ hr .refl rv_int
      · exact w.elim
    · exact w.elim
  · exact w.elim
end
end Mi

/-! Mi6: methods of lists and dicts, list(range(..)), displays of dicts. -/
namespace Mi
open PySem PySem.Spec PyProof.Rows L2

/-- may d be written into the cell n by a def that began with so many cells? -/
def okW (base n : Nat) (d : D) : Bool := decide (base ≤ n) || refsLt n d
section
variable {K : PySem.W.Frag} {W : Wish} {r : Rm} {h : Cells} {H : Hp} {m : Loc} {σ : L2.St}
theorem refsLts_mem {n : Nat} : ∀ {xs : List D}, refsLts n xs = true ↔ ∀ x ∈ xs, refsLt n x = true
  | [] => by simp [refsLts]
  | x :: xs => by simp [refsLts, refsLts_mem (xs := xs)]
theorem okW_ok (x : Rel K r h H m σ) {n : Nat} {d : D} (g : okW m.base n d = true) : ∀ q ∈ r.b, n < q → refsLt q d = true := by
  intro q hq hlt
  unfold okW at g
  simp only [Bool.or_eq_true, decide_eq_true_eq] at g
  rcases g with g | g
  · have := x.hm q hq
    omega
  · exact refsLt.mono (Nat.le_of_lt hlt) g
theorem refsLt_lst {q : Nat} {xs : List D} : refsLt q (.lst xs) = refsLts q xs := by simp only [refsLt]
theorem refsLt_dK {q : Nat} {ks : List Key} {xs : List D} : refsLt q (.dK ks xs) = refsLts q xs := by simp only [refsLt]
theorem refsLt_dT {q : Nat} {ks : List (List Key)} {xs : List D} : refsLt q (.dT ks xs) = refsLts q xs := by simp only [refsLt]
theorem live_lst (hr : HRel K r h H) {n : Nat} {v : V} {xs : List D} (rv : RV K r h H (.ref n) v) (e : h[n]? = some (true, .lst xs)) : ∃ a vs, v = .ref a ∧ r.c[n]? = some a ∧ H a = some (.lst vs) ∧ RVs K r h H xs vs := by
  simp only [RV] at rv
  obtain ⟨a, rfl, ea⟩ := rv
  obtain ⟨_, a', ea', vs, e2, y⟩ := hr.cell n _ _ e
  rw [ea] at ea'; cases ea'
  exact ⟨a, vs, rfl, ea, e2, y⟩
theorem wr_lst {α β : Type} {RR : RRT α β} (sb : Stb RR) (hr : HRel K r h H) {n : Nat} {a : Addr} {xs xs' : List D} {vs' : List V} {d : α} {v : β} {Q : β → Hp → Prop} (e : h[n]? = some (true, .lst xs)) (ea : r.c[n]? = some a) (y : RVs K r h H xs' vs') (g : ∀ q ∈ r.b, n < q → refsLts q xs' = true) (rr : RR r h H d v)
    (w : Wg K W RR (.ok d (h.set n (true, .lst xs'))) r h H Q) : Q v (upd H a (.lst vs')) := by
  have p := Post.write hr e ea (d' := .lst xs') (o := .lst vs')
  exact w r _ v (hr.write e ea (by simpa only [refsLt] using g) ⟨vs', upd_same, y.post p.p0⟩) p (sb p rr)
end

/-! ### methods of lists -/
def E_mtL (gm : Nat → D → List D → Cells → Res D) (f : ME) (g : MA) : ME := fun m h => (f m h).bind fun x h1 => if (lstOf h1 x).isSome = true then (g m h1).bind fun ds h2 => gm m.base x ds h2 else .stuck
def MtS (K : PySem.W.Frag) (W : Wish) (rule : V → List V → Hp → VK → Prop) (gm : Nat → D → List D → Cells → Res D) : Prop :=
  ∀ (r : Rm) (h : Cells) (H : Hp) (m : Loc) (σ : L2.St) (d : D) (v : V) (ds : List D) (vs : List V) (Q : VK), Rel K r h H m σ → RV K r h H d v → RVs K r h H ds vs → Wg K W (RRv K) (gm m.base d ds h) r h H Q → rule v vs H Q
section
variable {X : Cx} {W : Wish} {o e : Expr} {es : List Expr} {f : ME} {g : MA} {name : Str} {apos cpos : Pos} {id : String} {rule : V → List V → Hp → VK → Prop} {gm : Nat → D → List D → Cells → Res D}
theorem pm_mtL (slot : Slot "list" name id) (hty : typeOf (.builtin id) = pure (.type "method_descriptor")) (hm : MtR X id rule) (hs : MtS X.K W rule gm) (ho : PM X W o f) (ha : PMA X W (e :: es) g)
    (hbase : attributeBase o name X.env (eval o X.env) = eval o X.env := by rfl)
    (hfew : ((backTo cpos (starEach (e :: es) X.env)).all (fun x => !x.1) && (backToKw cpos (keywordEach [] X.env)).all (fun x => x.1.isSome)
      && decide ((e :: es).length + ([] : List Keyword).length + (if ([] : List Keyword).isEmpty then 0 else 1) < 30)) = true := by rfl)
    (hline : (apos.endLine == cpos.line) = true := by rfl) (hst : starEach (e :: es) X.env = (false, eval e X.env) :: starEach es X.env := by rfl) (hplain : (backTo cpos (starEach es X.env)).any (·.1) = false := by rfl) :
    PM X W (.Call (.Attribute o name apos) (e :: es) [] cpos) (E_mtL gm f g) := by
  refine ⟨(pe_bm PySem.F.plainAttrs_list slot hty hm ho.pe ha.pa hbase hfew hline hst hplain).imp fun σ H Q ⟨r, h, m, x, w⟩ => ?_⟩
  unfold E_mtL at w
  refine ⟨r, h, m, x, (Wg.bind (RR0 := RRv X.K) w).imp fun v H1 ⟨r1, h1, d, hr, p, rr, _, w1⟩ => ?_⟩
  split at w1
  · rename_i q
    obtain ⟨xs, ex⟩ := Option.isSome_iff_exists.mp q
    obtain ⟨a, vs, rfl, ea, _⟩ := lstOf_ok hr rr ex
    have x1 := x.post p hr
    refine ⟨.inl ⟨rfl, _, .of ea⟩, r1, h1, m, x1, (Wg.bind (RR0 := RRs X.K) w1).imp fun us H2 ⟨r2, h2, ds, hr2, p2, rr2, _, w2⟩ => hs r2 h2 H2 m σ d _ ds us Q (x1.post p2 hr2) (rr.post p2.p0) rr2 w2⟩
  · exact w1.elim
theorem pm_mtL0 (slot : Slot "list" name id) (hty : typeOf (.builtin id) = pure (.type "method_descriptor")) (hm : MtR X id rule) (hs : MtS X.K W rule gm) (ho : PM X W o f)
    (hbase : attributeBase o name X.env (eval o X.env) = eval o X.env := by rfl) (hline : (apos.endLine == cpos.line) = true := by rfl) :
    PM X W (.Call (.Attribute o name apos) [] [] cpos) (E_mtL gm f A_nil) := by
  refine ⟨(pe_bm0 PySem.F.plainAttrs_list slot hty hm ho.pe hbase hline).imp fun σ H Q ⟨r, h, m, x, w⟩ => ?_⟩
  unfold E_mtL at w
  refine ⟨r, h, m, x, (Wg.bind (RR0 := RRv X.K) w).imp fun v H1 ⟨r1, h1, d, hr, p, rr, _, w1⟩ => ?_⟩
  split at w1
  · rename_i q
    obtain ⟨xs, ex⟩ := Option.isSome_iff_exists.mp q
    obtain ⟨a, vs, rfl, ea, _⟩ := lstOf_ok hr rr ex
    exact ⟨.inl ⟨rfl, _, .of ea⟩, hs r1 h1 H1 m σ d _ [] [] Q (x.post p hr) rr RVs.nil w1⟩
  · exact w1.elim
end
def appendM (base : Nat) (x : D) (ds : List D) (h : Cells) : Res D := match x, ds with
  | .ref n, [d] => (match h[n]? with
    | some (true, .lst xs) => if xs.length < big ∧ okW base n d = true then .ok .non (h.set n (true, .lst (xs ++ [d]))) else .stuck
    | _ => .stuck)
  | _, _ => .stuck
def extendM (base : Nat) (x : D) (ds : List D) (h : Cells) : Res D := match x, ds with
  | .ref n, [d] => (match h[n]?, lstOf h d with
    | some (true, .lst xs), some ys => if xs.length + ys.length ≤ big ∧ okW base n (.lst ys) = true then .ok .non (h.set n (true, .lst (xs ++ ys))) else .stuck
    | _, _ => .stuck)
  | _, _ => .stuck
def popM (_ : Nat) (x : D) (ds : List D) (h : Cells) : Res D := match x, ds with
  | .ref n, [] => (match h[n]? with
    | some (true, .lst xs) => (match xs[xs.length - 1]? with
      | some d => .ok d (h.set n (true, .lst xs.dropLast))
      | none => .stuck)
    | _ => .stuck)
  | _, _ => .stuck
def popAtM (_ : Nat) (x : D) (ds : List D) (h : Cells) : Res D := match x, ds with
  | .ref n, [.int i] => (match h[n]? with
    | some (true, .lst xs) => (match ixN xs.length i with
      | some k => (match xs[k]? with
        | some d => if xs.length ≤ big then .ok d (h.set n (true, .lst (xs.eraseIdx k))) else .stuck
        | none => .stuck)
      | none => .stuck)
    | _ => .stuck)
  | _, _ => .stuck
section
variable {K : PySem.W.Frag} {W : Wish}
theorem mts_append : MtS K W rAppend appendM := by
  intro r h H m σ d v ds vs Q x rd rs w
  unfold appendM at w
  split at w
  · rename_i n e
    split at w
    · rename_i xs en
      split at w
      · rename_i g
        obtain ⟨a, ws, rfl, ea, e2, y⟩ := live_lst x.hr rd en
        obtain ⟨u, rfl, ru⟩ := rvs1 rs
        refine ⟨a, ws, u, rfl, rfl, e2, by rw [← y.length]; exact Nat.lt_trans g.1 big_line, wr_lst (RR := RRv K) (W := W) stb_v x.hr en ea (y.append (RVs.cons ru RVs.nil)) (fun q hq hl => ?_) rv_non w⟩
        have h1 := (x.hr.cell n _ _ en).1 q hq hl
        have h2 := okW_ok x g.2 q hq hl
        rw [refsLt_lst] at h1
        rw [refsLts_mem] at h1 ⊢
        intro z hz
        rcases List.mem_append.mp hz with hz | hz
        · exact h1 z hz
        · simp at hz; rw [hz]; exact h2
      · exact w.elim
    · exact w.elim
  · exact w.elim
theorem mts_extend : MtS K W rExtend extendM := by
  intro r h H m σ d v ds vs Q x rd rs w
  unfold extendM at w
  split at w
  · rename_i n e
    split at w
    · rename_i xs ys en ey
      split at w
      · rename_i g
        obtain ⟨a, ws, rfl, ea, e2, y⟩ := live_lst x.hr rd en
        obtain ⟨u, rfl, ru⟩ := rvs1 rs
        obtain ⟨b, zs, rfl, e3, y2⟩ := lstOf_ok x.hr ru ey
        refine ⟨a, b, ws, zs, rfl, rfl, e2, e3, by rw [← y.length, ← y2.length]; exact big_le g.1, wr_lst (RR := RRv K) (W := W) stb_v x.hr en ea (y.append y2) (fun q hq hl => ?_) rv_non w⟩
        have h1 := (x.hr.cell n _ _ en).1 q hq hl
        have h2 := okW_ok x g.2 q hq hl
        rw [refsLt_lst] at h1 h2
        rw [refsLts_mem] at h1 h2 ⊢
        intro z hz
        rcases List.mem_append.mp hz with hz | hz
        · exact h1 z hz
        · exact h2 z hz
      · exact w.elim
    · exact w.elim
  · exact w.elim
theorem mts_pop : MtS K W rPop popM := by
  intro r h H m σ d v ds vs Q x rd rs w
  unfold popM at w
  split at w
  · rename_i n
    split at w
    · rename_i xs en
      split at w
      · rename_i z ez
        obtain ⟨a, ws, rfl, ea, e2, y⟩ := live_lst x.hr rd en
        obtain ⟨u, eu, ru⟩ := y.get ez
        rw [rs.of_nil]
        refine ⟨a, ws, u, rfl, rfl, e2, by rw [← y.length]; exact eu, wr_lst (RR := RRv K) (W := W) stb_v x.hr en ea y.dropLast (fun q hq hl => ?_) ru w⟩
        have h1 := (x.hr.cell n _ _ en).1 q hq hl
        rw [refsLt_lst] at h1
        rw [refsLts_mem] at h1 ⊢
        intro z hz
        exact h1 z (List.dropLast_subset _ hz)
      · exact w.elim
    · exact w.elim
  · exact w.elim
theorem mts_popAt : MtS K W rPopAt popAtM := by
  intro r h H m σ d v ds vs Q x rd rs w
  unfold popAtM at w
  split at w
  · rename_i n i
    split at w
    · rename_i xs en
      split at w
      · rename_i k ek
        split at w
        · rename_i z ez
          split at w
          case isFalse => exact w.elim
          rename_i gl
          obtain ⟨a, ws, rfl, ea, e2, y⟩ := live_lst x.hr rd en
          obtain ⟨u, eu, ru⟩ := y.get ez
          obtain ⟨iv, rfl, ri⟩ := rvs1 rs
          rw [int_ok ri]
          rw [y.length] at ek
          obtain ⟨q1, q2, q3, q4⟩ := ixN_seq ek
          have hlen : ws.length ≤ sizeLine := by rw [← y.length]; exact big_le gl
          have hn := line63
          refine ⟨a, ws, i, k, u, rfl, rfl, e2, by omega, by omega, q1, eu, wr_lst (RR := RRv K) (W := W) stb_v x.hr en ea (y.eraseIdx k) (fun q hq hl => ?_) ru w⟩
          have h1 := (x.hr.cell n _ _ en).1 q hq hl
          rw [refsLt_lst] at h1
          rw [refsLts_mem] at h1 ⊢
          intro z hz
          exact h1 z (List.mem_of_mem_eraseIdx hz)
        · exact w.elim
      · exact w.elim
    · exact w.elim
  · exact w.elim
end
end Mi

/-! Mi7: targets, statements, loops. -/
namespace Mi
open PySem PySem.Spec PyProof.Rows L2

def Loc.set (m : Loc) (i : Nat) (d : D) : Loc := ⟨m.base, m.v.set i (some d)⟩
def wipeL (l : List (Option D)) : List Nat → List (Option D)
  | [] => l
  | v :: vs => (wipeL l vs).set v none
def Loc.wipe (m : Loc) (vs : List Nat) : Loc := ⟨m.base, wipeL m.v vs⟩
section
variable {K : PySem.W.Frag} {W : Wish} {r r1 : Rm} {h h1 : Cells} {H H1 : Hp} {m : Loc} {σ : L2.St}
theorem Rel.of {m' : Loc} {σ' : L2.St} (x : Rel K r h H m σ) (e : m'.base = m.base) (l : LRel K r h H m' σ') : Rel K r h H m' σ' := ⟨x.hr, l, by rw [e]; exact x.hb, by rw [e]; exact x.hm⟩
theorem LRel.set (x : LRel K r h H m σ) (i : Nat) {d : D} {v : V} (rv : RV K r h H d v) : LRel K r h H (m.set i d) (σ.set i (some v)) := by
  refine ⟨by simp only [Loc.set, List.length_set]; exact x.1, fun j e q => ?_⟩
  simp only [Loc.set] at q
  by_cases hj : i = j
  · subst hj
    by_cases hl : i < m.v.length
    · rw [List.getElem?_set_self hl] at q
      cases q
      exact ⟨v, by rw [List.getElem?_set_self (by rw [← x.1]; exact hl)], rv⟩
    · rw [List.getElem?_eq_none (by rw [List.length_set]; omega)] at q; cases q
  · rw [List.getElem?_set_ne hj] at q ⊢
    exact x.2 j e q
theorem Rel.set (x : Rel K r h H m σ) (i : Nat) {d : D} {v : V} (rv : RV K r h H d v) : Rel K r h H (m.set i d) (σ.set i (some v)) := x.of rfl (x.lr.set i rv)
theorem wipeL_length (l : List (Option D)) : ∀ vs, (wipeL l vs).length = l.length
  | [] => rfl
  | v :: vs => by simp only [wipeL, List.length_set]; exact wipeL_length l vs
theorem wipeL_some {l : List (Option D)} {j : Nat} {d : D} : ∀ {vs : List Nat}, (wipeL l vs)[j]? = some (some d) → l[j]? = some (some d) ∧ j ∉ vs
  | [], e => ⟨e, by simp⟩
  | v :: vs, e => by
    simp only [wipeL] at e
    by_cases hj : v = j
    · subst hj
      by_cases hl : v < (wipeL l vs).length
      · rw [List.getElem?_set_self hl] at e; cases e
      · rw [List.getElem?_eq_none (by rw [List.length_set]; omega)] at e; cases e
    · rw [List.getElem?_set_ne hj] at e
      obtain ⟨q1, q2⟩ := wipeL_some e
      exact ⟨q1, by simp only [List.mem_cons, not_or]; exact ⟨fun z => hj z.symm, q2⟩⟩
theorem wipe_keep {σ : L2.St} {j : Nat} {v : V} : ∀ {vs : List Nat}, σ[j]? = some (some v) → j ∉ vs → (wipe σ vs)[j]? = some (some v)
  | [], e, _ => e
  | w :: vs, e, hn => by
    simp only [List.mem_cons, not_or] at hn
    unfold wipe
    rw [List.getElem?_set_ne (fun z => hn.1 z.symm)]
    exact wipe_keep e hn.2
/-- slots forgotten on both sides -/
theorem Rel.wipe (x : Rel K r h H m σ) (vs : List Nat) : Rel K r h H (m.wipe vs) (wipe σ vs) := by
  refine x.of rfl ⟨by simp only [Loc.wipe, wipeL_length, wipe_length]; exact x.lr.1, fun j d e => ?_⟩
  obtain ⟨e1, hn⟩ := wipeL_some e
  obtain ⟨v, q1, q2⟩ := x.lr.2 j d e1
  exact ⟨v, wipe_keep q1 hn, q2⟩
/-- slots forgotten -/
theorem Rel.forget (x : Rel K r h H m σ) (vs : List Nat) : Rel K r h H (m.wipe vs) σ := by
  refine x.of rfl ⟨by simp only [Loc.wipe, wipeL_length]; exact x.lr.1, fun j d e => ?_⟩
  exact x.lr.2 j d (wipeL_some e).1
theorem wipe_set (σ : L2.St) (i : Nat) (v : Option V) : ∀ {vs : List Nat}, i ∈ vs → L2.wipe (σ.set i v) vs = L2.wipe σ vs
  | w :: vs, hm => by
    unfold L2.wipe
    by_cases e : i = w
    · subst e
      by_cases hv : i ∈ vs
      · rw [wipe_set σ i v hv]
      · have : ∀ (us : List Nat), i ∉ us → L2.wipe (σ.set i v) us = (L2.wipe σ us).set i v := by
          intro us
          induction us with
          | nil => intro _; rfl
          | cons u us ih =>
            intro hn
            simp only [List.mem_cons, not_or] at hn
            unfold L2.wipe
            rw [ih hn.2, List.set_comm _ _ (fun z => hn.1 z)]
        rw [this vs hv, List.set_set]
    · have hv : i ∈ vs := by
        rcases List.mem_cons.mp hm with z | z
        · exact absurd z e
        · exact z
      rw [wipe_set σ i v hv]
end

/-! ### targets -/
abbrev MG := D → Loc → Cells → Res Loc
abbrev MGs := List D → Loc → Cells → Res Loc
def WgL (K : PySem.W.Frag) (W : Wish) (vs : List Nat) (σ : L2.St) (res : Res Loc) (r : Rm) (h : Cells) (H : Hp) (Q : L2.St → Hp → Prop) : Prop := match res with
  | .ok m' h' => ∀ r' H' σ', Rel K r' h' H' m' σ' → Post r h H r' h' H' → wipe σ' vs = wipe σ vs → Q σ' H'
  | .exc x h' => W.p r h H x h'
  | .stuck => False
def tGt (K : PySem.W.Frag) (W : Wish) (vs : List Nat) (g : MG) : TG := fun v σ H Q => ∃ r h m d, Rel K r h H m σ ∧ RV K r h H d v ∧ WgL K W vs σ (g d m h) r h H Q
def tGts (K : PySem.W.Frag) (W : Wish) (vs : List Nat) (g : MGs) : TGs := fun us σ H Q => ∃ r h m ds, Rel K r h H m σ ∧ RVs K r h H ds us ∧ WgL K W vs σ (g ds m h) r h H Q
structure PMG (X : Cx) (W : Wish) (vs : List Nat) (tg : Expr) (g : MG) : Prop where
  pg : PG X tg (tGt X.K W vs g)
structure PMGs (X : Cx) (W : Wish) (vs : List Nat) (tgs : List Expr) (g : MGs) : Prop where
  pgs : PGs X tgs (tGts X.K W vs g)
theorem _root_.L2.PG.imp {X : Cx} {e : Expr} {t t' : TG} (h : PG X e t) (i : ∀ v σ H Q, t' v σ H Q → t v σ H Q) : PG X e t' := ⟨fun pins s σ H v u Q I r w => h.run pins s σ H v u Q I r (i v σ H Q w)⟩
theorem _root_.L2.PGs.imp {X : Cx} {e : List Expr} {t t' : TGs} (h : PGs X e t) (i : ∀ v σ H Q, t' v σ H Q → t v σ H Q) : PGs X e t' := ⟨fun pins s σ H v u Q I r w => h.run pins s σ H v u Q I r (i v σ H Q w)⟩
section
variable {K : PySem.W.Frag} {W : Wish} {vs : List Nat}
theorem WgL.post {σ : L2.St} {res : Res Loc} {r r1 : Rm} {h h1 : Cells} {H H1 : Hp} {Q : L2.St → Hp → Prop} (p : Post r h H r1 h1 H1) (w : WgL K W vs σ res r h H Q) : WgL K W vs σ res r1 h1 H1 Q := by
  cases res with
  | ok a h' => exact fun r' H' b hr q rr => w r' H' b hr (p.trans q) rr
  | exc x h' => exact W.mono p w
  | stuck => exact w.elim
theorem WgL.at {σ σ1 : L2.St} {res : Res Loc} {r : Rm} {h : Cells} {H : Hp} {Q : L2.St → Hp → Prop} (e : wipe σ1 vs = wipe σ vs) (w : WgL K W vs σ res r h H Q) : WgL K W vs σ1 res r h H Q := by
  cases res with
  | ok a h' => exact fun r' H' b hr q rr => w r' H' b hr q (rr.trans e)
  | exc x h' => exact w
  | stuck => exact w.elim
theorem WgL.imp {σ : L2.St} {res : Res Loc} {r : Rm} {h : Cells} {H : Hp} {Q Q' : L2.St → Hp → Prop} (w : WgL K W vs σ res r h H Q) (i : ∀ b H', Q b H' → Q' b H') : WgL K W vs σ res r h H Q' := by
  cases res with
  | ok a h' => exact fun r' H' b hr q rr => i _ _ (w r' H' b hr q rr)
  | exc x h' => exact w
  | stuck => exact w.elim
/-- a value first, then a target -/
theorem WgL.bind {α β : Type} {RR0 : RRT α β} {σ : L2.St} {res : Res α} {k : α → Cells → Res Loc} {r : Rm} {h : Cells} {H : Hp} {Q : L2.St → Hp → Prop} (w : WgL K W vs σ (res.bind k) r h H Q) :
    Wg K W RR0 res r h H fun b H1 => ∃ r1 h1 a, HRel K r1 h1 H1 ∧ Post r h H r1 h1 H1 ∧ RR0 r1 h1 H1 a b ∧ WgL K W vs σ (k a h1) r1 h1 H1 Q := by
  cases res with
  | ok a h' => exact fun r' H' b hr q rr => ⟨r', h', a, hr, q, rr, w.post q⟩
  | exc x h' => exact w
  | stuck => exact w.elim
/-- a target, then a target -/
theorem WgL.bindL {σ : L2.St} {res : Res Loc} {k : Loc → Cells → Res Loc} {r : Rm} {h : Cells} {H : Hp} {Q : L2.St → Hp → Prop} (w : WgL K W vs σ (res.bind k) r h H Q) :
    WgL K W vs σ res r h H fun σ1 H1 => ∃ r1 h1 m1, Rel K r1 h1 H1 m1 σ1 ∧ Post r h H r1 h1 H1 ∧ WgL K W vs σ1 (k m1 h1) r1 h1 H1 Q := by
  cases res with
  | ok a h' => exact fun r' H' b hr q rr => ⟨r', h', a, hr, q, (w.post q).at rr⟩
  | exc x h' => exact w
  | stuck => exact w.elim
end
def G_name (i : Nat) : MG := fun d m h => .ok (m.set i d) h
def GS_nil : MGs := fun ds m h => match ds with | [] => .ok m h | _ => .stuck
def GS_cons (g : MG) (gs : MGs) : MGs := fun ds m h => match ds with | d :: r => (g d m h).bind fun m1 h1 => gs r m1 h1 | [] => .stuck
def G_tup (n : Nat) (gs : MGs) : MG := fun d m h => match d with | .tup xs => if xs.length = n then gs xs m h else .stuck | _ => .stuck
/-- o[i] = v -/
def setD (base : Nat) (o i v : D) (h : Cells) : Res D := match o with
  | .ref n => (match h[n]? with
    | some (true, .lst xs) => (match i with
      | .int k => (match ixN xs.length k with
        | some j => if okW base n v = true then .ok .non (h.set n (true, .lst (xs.set j v))) else .stuck
        | none => .stuck)
      | _ => .stuck)
    | some (true, .dK ks xs) => (match keyOf i with
      | some k => if ks.length < big ∧ okW base n v = true then .ok .non (h.set n (true, .dK (putD ks xs k v).1 (putD ks xs k v).2)) else .stuck
      | none => .stuck)
    | some (true, .dT ks xs) => (match i with
      | .tup ts => (match keysOf ts with
        | some k => if ks.length < big ∧ okW base n v = true then .ok .non (h.set n (true, .dT (putD ks xs k v).1 (putD ks xs k v).2)) else .stuck
        | none => .stuck)
      | _ => .stuck)
    | _ => .stuck)
  | _ => .stuck
def G_sub (f f' : ME) : MG := fun v m h => (f m h).bind fun o h1 => (f' m h1).bind fun i h2 => (setD m.base o i v h2).bind fun _ h3 => .ok m h3
theorem replD_mem {κ : Type} [DecidableEq κ] {j : κ} {y : D} : ∀ {ks : List κ} {xs : List D} {z : D}, z ∈ replD j y ks xs → z = y ∨ z ∈ xs
  | [], xs, z, h => by simp only [replD] at h; exact .inr h
  | k :: ks, [], z, h => by simp [replD] at h
  | k :: ks, x :: xs, z, h => by
    simp only [replD, List.mem_cons] at h
    rcases h with h | h
    · split at h
      · exact .inl h
      · exact .inr (by rw [h]; exact List.mem_cons_self)
    · rcases replD_mem h with e | e
      · exact .inl e
      · exact .inr (List.mem_cons_of_mem _ e)
theorem putD_mem {κ : Type} [DecidableEq κ] {j : κ} {y : D} {ks : List κ} {xs : List D} {z : D} (h : z ∈ (putD ks xs j y).2) : z = y ∨ z ∈ xs := by
  unfold putD at h
  split at h
  · exact replD_mem h
  · rcases List.mem_append.mp h with e | e
    · exact .inr e
    · simp at e; exact .inl e
section
variable {K : PySem.W.Frag} {W : Wish} {r : Rm} {h : Cells} {H : Hp} {m : Loc} {σ : L2.St}
def rSetA (H : Hp) (o i v : V) (H' : Hp) : Prop := (∃ p xs k j, o = .ref p ∧ i = .int k ∧ H p = some (.lst xs) ∧ ixN xs.length k = some j ∧ H' = upd H p (.lst (xs.set j v))) ∨ ∃ a, o = .ref a ∧ DPut H a i v H'
theorem live_dK (hr : HRel K r h H) {n : Nat} {v : V} {ks : List Key} {xs : List D} (rv : RV K r h H (.ref n) v) (e : h[n]? = some (true, .dK ks xs)) : ∃ a vs, v = .ref a ∧ r.c[n]? = some a ∧ ks.length = xs.length ∧ H a = some (.dK (ks.zip vs)) ∧ RVs K r h H xs vs := by
  simp only [RV] at rv
  obtain ⟨a, rfl, ea⟩ := rv
  obtain ⟨_, a', ea', vs, e2, l, _, y⟩ := hr.cell n _ _ e
  rw [ea] at ea'; cases ea'
  exact ⟨a, vs, rfl, ea, l, e2 rfl, y⟩
theorem live_dT (hr : HRel K r h H) {n : Nat} {v : V} {ks : List (List Key)} {xs : List D} (rv : RV K r h H (.ref n) v) (e : h[n]? = some (true, .dT ks xs)) : ∃ a vs, v = .ref a ∧ r.c[n]? = some a ∧ ks.length = xs.length ∧ H a = some (.dT (ks.zip vs)) ∧ RVs K r h H xs vs := by
  simp only [RV] at rv
  obtain ⟨a, rfl, ea⟩ := rv
  obtain ⟨_, a', ea', vs, e2, l, _, y⟩ := hr.cell n _ _ e
  rw [ea] at ea'; cases ea'
  exact ⟨a, vs, rfl, ea, l, e2 rfl, y⟩
theorem wr_d {α β : Type} {RR : RRT α β} (sb : Stb RR) (hr : HRel K r h H) {n : Nat} {a : Addr} {c c' : D} {o' : HO} {d : α} {v : β} {Q : β → Hp → Prop} (e : h[n]? = some (true, c)) (ea : r.c[n]? = some a)
    (g : ∀ q ∈ r.b, n < q → refsLt q c' = true) (cv : CV K r (h.set n (true, c')) (upd H a o') true c' a) (rr : RR r h H d v)
    (w : Wg K W RR (.ok d (h.set n (true, c'))) r h H Q) : Q v (upd H a o') := by
  have p := Post.write hr e ea (d' := c') (o := o')
  exact w r _ v (hr.write e ea g cv) p (sb p rr)
theorem setD_ok (x : Rel K r h H m σ) {o i d : D} {ov iv v : V} {Q : VK} (ro : RV K r h H o ov) (ri : RV K r h H i iv) (rd : RV K r h H d v) (w : Wg K W (RRv K) (setD m.base o i d h) r h H Q) : ∃ H', rSetA H ov iv v H' ∧ Q .non H' := by
  unfold setD at w
  split at w
  case h_2 => exact w.elim
  rename_i n
  split at w
  · rename_i xs en
    split at w
    · rename_i k
      split at w
      · rename_i j ej
        split at w
        · rename_i g
          obtain ⟨a, ws, rfl, ea, e2, y⟩ := live_lst x.hr ro en
          rw [int_ok ri]
          refine ⟨_, .inl ⟨a, ws, k, j, rfl, rfl, e2, by rw [← y.length]; exact ej, rfl⟩, wr_lst (RR := RRv K) (W := W) stb_v x.hr en ea (y.set rd j) (fun q hq hl => ?_) rv_non w⟩
          have h1 := (x.hr.cell n _ _ en).1 q hq hl
          have h2 := okW_ok x g q hq hl
          rw [refsLt_lst] at h1
          rw [refsLts_mem] at h1 ⊢
          intro z hz
          rcases List.mem_or_eq_of_mem_set hz with hz | hz
          · exact h1 z hz
          · rw [hz]; exact h2
        · exact w.elim
      · exact w.elim
    · exact w.elim
  · rename_i ks xs en
    split at w
    · rename_i k ek
      split at w
      · rename_i g
        obtain ⟨a, ws, rfl, ea, l, e2, y⟩ := live_dK x.hr ro en
        have e3 := keyOf_ok ri ek
        obtain ⟨us, e4, y2, l2⟩ := putD_ok (K := K) k rd l y
        have lz : (ks.zip ws).length < sizeLine := by
          rw [List.length_zip, ← y.length, ← l, Nat.min_self]; exact Nat.lt_trans g.1 big_line
        refine ⟨_, .inr ⟨a, rfl, by rw [e3]; exact DPut.k e2 lz⟩, ?_⟩
        rw [e4]
        have p := Post.write x.hr en ea (d' := .dK (putD ks xs k d).1 (putD ks xs k d).2) (o := .dK ((putD ks xs k d).1.zip us))
        refine wr_d (RR := RRv K) (W := W) (c' := .dK (putD ks xs k d).1 (putD ks xs k d).2) stb_v x.hr en ea (fun q hq hl => ?_) ⟨us, fun _ => upd_same, l2, .inl upd_same, y2.post p.p0⟩ rv_non w
        have h1 := (x.hr.cell n _ _ en).1 q hq hl
        have h2 := okW_ok x g.2 q hq hl
        rw [refsLt_dK] at h1 ⊢
        rw [refsLts_mem] at h1 ⊢
        intro z hz
        rcases putD_mem hz with hz | hz
        · rw [hz]; exact h2
        · exact h1 z hz
      · exact w.elim
    · exact w.elim
  · rename_i ks xs en
    split at w
    · rename_i ts
      split at w
      · rename_i k ek
        split at w
        · rename_i g
          obtain ⟨a, ws, rfl, ea, l, e2, y⟩ := live_dT x.hr ro en
          obtain ⟨b, us0, rfl, eb, yt⟩ := tup_ok ri
          have e3 := keysOf_ok yt ek
          obtain ⟨us, e4, y2, l2⟩ := putD_ok (K := K) k rd l y
          have lz : (ks.zip ws).length < sizeLine := by
            rw [List.length_zip, ← y.length, ← l, Nat.min_self]; exact Nat.lt_trans g.1 big_line
          refine ⟨_, .inr ⟨a, rfl, DPut.t e2 (by rw [eb, e3]) lz⟩, ?_⟩
          rw [e4]
          have p := Post.write x.hr en ea (d' := .dT (putD ks xs k d).1 (putD ks xs k d).2) (o := .dT ((putD ks xs k d).1.zip us))
          refine wr_d (RR := RRv K) (W := W) (c' := .dT (putD ks xs k d).1 (putD ks xs k d).2) stb_v x.hr en ea (fun q hq hl => ?_) ⟨us, fun _ => upd_same, l2, .inl upd_same, y2.post p.p0⟩ rv_non w
          have h1 := (x.hr.cell n _ _ en).1 q hq hl
          have h2 := okW_ok x g.2 q hq hl
          rw [refsLt_dT] at h1 ⊢
          rw [refsLts_mem] at h1 ⊢
          intro z hz
          rcases putD_mem hz with hz | hz
          · rw [hz]; exact h2
          · exact h1 z hz
        · exact w.elim
      · exact w.elim
    · exact w.elim
  · exact w.elim
end
section
variable {X : Cx} {W : Wish} {vs : List Nat} {pos : Pos}
theorem set_any (hu : X.A.units + 1 < cLine) : PSet X (fun o i v H Q => ∃ H', rSetA H o i v H' ∧ Q H') := by
  intro pins s σ H o i v ov iv u Q I ro ri rv h
  obtain ⟨H', g, q⟩ := h
  rcases g with ⟨p, xs, k, j, e1, e2, e3, e4, e5⟩ | ⟨a, e1, g⟩
  · exact set_list pins s σ H o i v ov iv u Q I ro ri rv ⟨p, xs, k, j, e1, e2, e3, e4, by rw [← e5]; exact q⟩
  · exact set_dict hu pins s σ H o i v ov iv u Q I ro ri rv ⟨a, H', e1, g, q⟩
theorem pmg_name (i : Nat) {x : Str} (hN : X.N.Nodup) (hv : i ∈ vs := by decide) (hi : X.N[i]? = some x := by rfl) (hx : L2.Loc X.env.scope x := by first | exact Or.inl rfl | exact Or.inr rfl) (hf : X.fn x = true ∨ X.env.scope.names.lookup x = some .local := by first | exact .inl rfl | exact .inr rfl) :
    PMG X W vs (.Name x pos) (G_name i) :=
  ⟨(pg_name hN hi hx hf).imp fun v σ H Q ⟨r, h, m, d, x, rv, w⟩ => w r H _ (x.set i rv) .refl (wipe_set σ i _ hv)⟩
theorem pmgs_nil : PMGs X W vs [] GS_nil := ⟨pgs_nil.imp fun us σ H Q ⟨r, h, m, ds, x, rv, w⟩ => by
  unfold GS_nil at w
  split at w
  · exact ⟨rv.of_nil, w r H σ x .refl rfl⟩
  · exact w.elim⟩
theorem pmgs_cons {e : Expr} {es : List Expr} {g : MG} {gs : MGs} (h1 : PMG X W vs e g) (h2 : PMGs X W vs es gs)
    (hs : (assignEach (e :: es) X.env).map (·.2) = assign e X.env :: (assignEach es X.env).map (·.2) := by rfl) : PMGs X W vs (e :: es) (GS_cons g gs) := by
  refine ⟨(pgs_cons h1.pg h2.pgs hs).imp fun us σ H Q ⟨r, h, m, ds, x, rv, w⟩ => ?_⟩
  unfold GS_cons at w
  split at w
  · rename_i d ds'
    obtain ⟨v, ws, rfl, rd, rs⟩ := rv.of_cons
    refine ⟨v, ws, rfl, r, h, m, d, x, rd, w.bindL.imp fun σ1 H1 ⟨r1, h1, m1, x1, p, w1⟩ => ⟨r1, h1, m1, ds', x1, rs.post p.p0, w1⟩⟩
  · exact w.elim
theorem pmg_tup {es : List Expr} {k n : Nat} {gs : MGs} (hc : X.calm = true) (hs : PMGs X W vs es gs) (hn : (assignEach es X.env).length = n := by rfl) (hst : (assignEach es X.env).findIdx? (·.1) = none := by rfl) :
    PMG X W vs (.Tuple es k pos) (G_tup n gs) := by
  refine ⟨(pg_tup hc hs.pgs hn hst).imp fun v σ H Q ⟨r, h, m, d, x, rv, w⟩ => ?_⟩
  unfold G_tup at w
  split at w
  · split at w
    · rename_i xs e
      obtain ⟨a, us, rfl, ea, y⟩ := tup_ok rv
      exact ⟨a, us, rfl, .inl (.inl ea), by rw [← y.length]; exact e, r, h, m, xs, x, y, w⟩
    · exact w.elim
  · exact w.elim
theorem pmg_sub {o i : Expr} {f f' : ME} (hu : X.A.units + 1 < cLine) (ho : PM X W o f) (hi : PM X W i f')
    (ha : ∀ v, assign (.Subscript o i pos) X.env v = (do
      let ov ← holding [v] (eval o X.env)
      let iv ← holding [v, ov] (eval i X.env)
      standAt pos
      holding [v, ov, iv] (setItem ov iv v)
      release [v, ov, iv] []) := by intro _; rfl) : PMG X W vs (.Subscript o i pos) (G_sub f f') := by
  refine ⟨(pg_sub ho.pe hi.pe (set_any hu) ha).imp fun v σ H Q ⟨r, h, m, d, x, rv, w⟩ => ?_⟩
  unfold G_sub at w
  refine ⟨r, h, m, x, (WgL.bind (RR0 := RRv X.K) w).imp fun ov H1 ⟨r1, h1, od, hr1, p1, ro, w1⟩ => ?_⟩
  have x1 := x.post p1 hr1
  refine ⟨r1, h1, m, x1, (WgL.bind (RR0 := RRv X.K) w1).imp fun iv H2 ⟨r2, h2, id, hr2, p2, ri, w2⟩ => ?_⟩
  have x2 := x1.post p2 hr2
  have w3 := WgL.bind (RR0 := RRv X.K) w2
  obtain ⟨H3, g, r3, h3, u, hr3, p3, _, w4⟩ := setD_ok x2 (ro.post p2.p0) ri ((rv.post p1.p0).post p2.p0) w3
  exact ⟨H3, g, w4 r3 H3 σ (x2.post p3 hr3) .refl rfl⟩
end

/-! ### statements -/
def WgS (K : PySem.W.Frag) (W : Wish) (res : Res Fl) (r : Rm) (h : Cells) (H : Hp) (E : Ends) : Prop := match res with
  | .ok (.nx m') h' => ∀ r' H' σ', Rel K r' h' H' m' σ' → Post r h H r' h' H' → E.nx σ' H'
  | .ok (.rt d) h' => ∀ r' H' v, HRel K r' h' H' → Post r h H r' h' H' → RV K r' h' H' d v → E.rt v H'
  | .ok (.bk m') h' => ∀ r' H' σ', Rel K r' h' H' m' σ' → Post r h H r' h' H' → E.bk σ' H'
  | .ok (.ct m') h' => ∀ r' H' σ', Rel K r' h' H' m' σ' → Post r h H r' h' H' → E.ct σ' H'
  | .exc x h' => W.p r h H x h'
  | .stuck => False
def tS (K : PySem.W.Frag) (W : Wish) (f : MS) : TS := fun E σ H => ∃ r h m, Rel K r h H m σ ∧ WgS K W (f m h) r h H E
structure PMS (X : Cx) (W : Wish) (st : Stmt) (f : MS) : Prop where
  ps : PS X st (tS X.K W f)
structure PMSs (X : Cx) (W : Wish) (sts : List Stmt) (f : MS) : Prop where
  pss : PSs X sts (tS X.K W f)
def Res.seq (x : Res Fl) (k : Loc → Cells → Res Fl) : Res Fl := match x with
  | .ok (.nx m) h => k m h
  | .ok (.rt d) h => .ok (.rt d) h
  | .ok (.bk m) h => .ok (.bk m) h
  | .ok (.ct m) h => .ok (.ct m) h
  | .exc x h => .exc x h
  | .stuck => .stuck
@[simp] theorem Res.seq_nx (m : Loc) (h : Cells) (k : Loc → Cells → Res Fl) : (Res.ok (.nx m) h).seq k = k m h := rfl
@[simp] theorem Res.seq_rt (d : D) (h : Cells) (k : Loc → Cells → Res Fl) : (Res.ok (.rt d) h).seq k = .ok (.rt d) h := rfl
@[simp] theorem Res.seq_bk (m : Loc) (h : Cells) (k : Loc → Cells → Res Fl) : (Res.ok (.bk m) h).seq k = .ok (.bk m) h := rfl
@[simp] theorem Res.seq_ct (m : Loc) (h : Cells) (k : Loc → Cells → Res Fl) : (Res.ok (.ct m) h).seq k = .ok (.ct m) h := rfl
@[simp] theorem Res.seq_stuck (k : Loc → Cells → Res Fl) : Res.seq .stuck k = .stuck := rfl
section
variable {K : PySem.W.Frag} {W : Wish}
theorem WgS.post {res : Res Fl} {r r1 : Rm} {h h1 : Cells} {H H1 : Hp} {E : Ends} (p : Post r h H r1 h1 H1) (w : WgS K W res r h H E) : WgS K W res r1 h1 H1 E := by
  cases res with
  | ok a h' => cases a <;> exact fun r' H' b hr q => w r' H' b hr (p.trans q)
  | exc x h' => exact W.mono p w
  | stuck => exact w.elim
theorem WgS.imp {res : Res Fl} {r : Rm} {h : Cells} {H : Hp} {E E' : Ends} (w : WgS K W res r h H E) (i1 : ∀ b H', E.nx b H' → E'.nx b H') (i2 : ∀ b H', E.rt b H' → E'.rt b H') (i3 : ∀ b H', E.bk b H' → E'.bk b H') (i4 : ∀ b H', E.ct b H' → E'.ct b H') : WgS K W res r h H E' := by
  cases res with
  | ok a h' => cases a with
    | nx m => exact fun r' H' b hr q => i1 _ _ (w r' H' b hr q)
    | rt m => exact fun r' H' b hr q rr => i2 _ _ (w r' H' b hr q rr)
    | bk m => exact fun r' H' b hr q => i3 _ _ (w r' H' b hr q)
    | ct m => exact fun r' H' b hr q => i4 _ _ (w r' H' b hr q)
  | exc x h' => exact w
  | stuck => exact w.elim
theorem WgS.bind {α β : Type} {RR0 : RRT α β} {res : Res α} {k : α → Cells → Res Fl} {r : Rm} {h : Cells} {H : Hp} {E : Ends} (w : WgS K W (res.bind k) r h H E) :
    Wg K W RR0 res r h H fun b H1 => ∃ r1 h1 a, HRel K r1 h1 H1 ∧ Post r h H r1 h1 H1 ∧ RR0 r1 h1 H1 a b ∧ WgS K W (k a h1) r1 h1 H1 E := by
  cases res with
  | ok a h' => exact fun r' H' b hr q rr => ⟨r', h', a, hr, q, rr, w.post q⟩
  | exc x h' => exact w
  | stuck => exact w.elim
theorem WgS.bindL {res : Res Loc} {k : Loc → Cells → Res Fl} {vs : List Nat} {σ : L2.St} {r : Rm} {h : Cells} {H : Hp} {E : Ends} (w : WgS K W (res.bind k) r h H E) :
    WgL K W vs σ res r h H fun σ1 H1 => ∃ r1 h1 m1, Rel K r1 h1 H1 m1 σ1 ∧ Post r h H r1 h1 H1 ∧ WgS K W (k m1 h1) r1 h1 H1 E := by
  cases res with
  | ok a h' => exact fun r' H' b hr q rr => ⟨r', h', a, hr, q, w.post q⟩
  | exc x h' => exact w
  | stuck => exact w.elim
theorem WgS.seq {res : Res Fl} {k : Loc → Cells → Res Fl} {r : Rm} {h : Cells} {H : Hp} {E : Ends} (w : WgS K W (res.seq k) r h H E) :
    WgS K W res r h H { E with nx := fun σ1 H1 => ∃ r1 h1 m1, Rel K r1 h1 H1 m1 σ1 ∧ Post r h H r1 h1 H1 ∧ WgS K W (k m1 h1) r1 h1 H1 E } := by
  cases res with
  | ok a h' => cases a with
    | nx m => exact fun r' H' b hr q => ⟨r', h', m, hr, q, w.post q⟩
    | rt m => exact w
    | bk m => exact w
    | ct m => exact w
  | exc x h' => exact w
  | stuck => exact w.elim
end
def S_nil : MS := fun m h => .ok (.nx m) h
def S_cons (f g : MS) : MS := fun m h => (f m h).seq g
def S_set (i : Nat) (f : ME) : MS := fun m h => (f m h).bind fun d h1 => .ok (.nx (m.set i d)) h1
def S_asg (f : ME) (g : MG) : MS := fun m h => (f m h).bind fun d h1 => (g d m h1).bind fun m1 h2 => .ok (.nx m1) h2
def S_par (i j : Nat) (f : MA) : MS := fun m h => (f m h).bind fun ds h1 => match ds with | [x, y] => .ok (.nx ((m.set i x).set j y)) h1 | _ => .stuck
def S_par3 (i j l : Nat) (f : MA) : MS := fun m h => (f m h).bind fun ds h1 => match ds with | [x, y, z] => .ok (.nx (((m.set i x).set j y).set l z)) h1 | _ => .stuck
def S_ret (f : ME) : MS := fun m h => (f m h).bind fun d h1 => .ok (.rt d) h1
def S_expr (f : ME) : MS := fun m h => (f m h).bind fun _ h1 => .ok (.nx m) h1
def S_if (c : MT) (f g : MS) : MS := fun m h => (c m h).bind fun b h1 => if b = true then f m h1 else g m h1
def S_never : MS := fun _ _ => .stuck
def S_pass : MS := fun m h => .ok (.nx m) h
def S_break : MS := fun m h => .ok (.bk m) h
def S_cont : MS := fun m h => .ok (.ct m) h
section
variable {X : Cx} {W : Wish} {pos : Pos} {st : Stmt} {sts : List Stmt} {f g : MS} {e : Expr} {fe : ME}
theorem pms_nil : PMSs X W [] S_nil := ⟨pss_nil.imp fun E σ H ⟨r, h, m, x, w⟩ => w r H σ x .refl⟩
theorem pms_cons (h1 : PMS X W st f) (h2 : PMSs X W sts g) : PMSs X W (st :: sts) (S_cons f g) := by
  refine ⟨(pss_cons h1.ps h2.pss).imp fun E σ H ⟨r, h, m, x, w⟩ => ?_⟩
  unfold S_cons at w
  refine ⟨r, h, m, x, (WgS.seq w).imp (fun σ1 H1 ⟨r1, h1, m1, x1, p, w1⟩ => ⟨r1, h1, m1, x1, w1⟩) (fun _ _ z => z) (fun _ _ z => z) (fun _ _ z => z)⟩
theorem pms_set (i : Nat) {x : Str} {pos' : Pos} (hN : X.N.Nodup) (he : PM X W e fe) (hi : X.N[i]? = some x := by rfl) (hx : L2.Loc X.env.scope x := by first | exact Or.inl rfl | exact Or.inr rfl) (hs : swapsWith e (some (.Name x pos')) pos.line X.env = pure false := by rfl)
    (hf : X.fn x = true ∨ X.env.scope.names.lookup x = some .local := by first | exact .inl rfl | exact .inr rfl) : PMS X W (.Assign [.Name x pos'] e pos) (S_set i fe) := by
  refine ⟨(ps_set hN hi hx he.pe hs hf).imp fun E σ H ⟨r, h, m, x, w⟩ => ?_⟩
  unfold S_set at w
  exact ⟨r, h, m, x, (WgS.bind (RR0 := RRv X.K) w).imp fun v H1 ⟨r1, h1, d, hr1, p1, rv, w1⟩ => w1 r1 H1 _ ((x.post p1 hr1).set i rv) .refl⟩
theorem pms_asg {tg : Expr} {vs : List Nat} {gg : MG} (he : PM X W e fe) (hg : PMG X W vs tg gg) (hs : swapsWithSole [tg] e pos.line X.env = pure false := by rfl) (hw : swappedStores [tg] e X.env = pure none := by rfl)
    (h1 : (assignEach [tg] X.env).map (·.2) = [assign tg X.env] := by rfl) : PMS X W (.Assign [tg] e pos) (S_asg fe gg) := by
  refine ⟨(ps_asg he.pe hg.pg hs hw h1).imp fun E σ H ⟨r, h, m, x, w⟩ => ?_⟩
  unfold S_asg at w
  refine ⟨r, h, m, x, (WgS.bind (RR0 := RRv X.K) w).imp fun v H1 ⟨r1, h1, d, hr1, p1, rv, w1⟩ => ⟨r1, h1, m, d, x.post p1 hr1, rv, ?_⟩⟩
  exact (WgS.bindL w1).imp fun σ1 H2 ⟨r2, h2, m2, x2, p2, w2⟩ => w2 r2 H2 _ x2 .refl
theorem pms_par (i j : Nat) {x y : Str} {a b : Expr} {fa : MA} {px py pt : Pos} {kt k2 pt2} (hc : X.calm = true) (hN : X.N.Nodup) (ha : PMA X W [a, b] fa) (hi : X.N[i]? = some x := by rfl) (hj : X.N[j]? = some y := by rfl) (hij : i ≠ j := by decide)
    (hx : X.env.scope.names.lookup x = some .local := by rfl) (hy : X.env.scope.names.lookup y = some .local := by rfl)
    (hw : swappedStores [.Tuple [.Name x px, .Name y py] kt pt] (.Tuple [a, b] k2 pt2) X.env = pure (some [x, y]) := by rfl)
    (hs : swapsWithSole [.Tuple [.Name x px, .Name y py] kt pt] (.Tuple [a, b] k2 pt2) pos.line X.env = pure false := by rfl) :
    PMS X W (.Assign [.Tuple [.Name x px, .Name y py] kt pt] (.Tuple [a, b] k2 pt2) pos) (S_par i j fa) := by
  refine ⟨(ps_par hc hN hi hj hij hx hy ha.pa hw hs).imp fun E σ H ⟨r, h, m, x, w⟩ => ?_⟩
  unfold S_par at w
  refine ⟨r, h, m, x, (WgS.bind (RR0 := RRs X.K) w).imp fun vs H1 ⟨r1, h1, ds, hr1, p1, rs, w1⟩ => ?_⟩
  split at w1
  · obtain ⟨v, u, rfl, rv, ru⟩ := rvs2 rs
    exact ⟨v, u, rfl, w1 r1 H1 _ (((x.post p1 hr1).set i rv).set j ru) .refl⟩
  · exact w1.elim
theorem pms_ret (he : PM X W e fe) : PMS X W (.Return (some e) pos) (S_ret fe) := by
  refine ⟨(ps_ret he.pe).imp fun E σ H ⟨r, h, m, x, w⟩ => ?_⟩
  unfold S_ret at w
  exact ⟨r, h, m, x, (WgS.bind (RR0 := RRv X.K) w).imp fun v H1 ⟨r1, h1, d, hr1, p1, rv, w1⟩ => w1 r1 H1 v hr1 .refl rv⟩
theorem pms_expr (he : PM X W e fe) (hs : swapsWith e none pos.line X.env = pure false := by rfl) : PMS X W (.Expr e pos) (S_expr fe) := by
  refine ⟨(ps_expr he.pe hs).imp fun E σ H ⟨r, h, m, x, w⟩ => ?_⟩
  unfold S_expr at w
  exact ⟨r, h, m, x, (WgS.bind (RR0 := RRv X.K) w).imp fun v H1 ⟨r1, h1, d, hr1, p1, rv, w1⟩ => w1 r1 H1 σ (x.post p1 hr1) .refl⟩
theorem pms_if {c : Expr} {a b : List Stmt} {fc : MT} (hc : PMT X W c fc) (ha : PMSs X W a f) (hb : PMSs X W b g) : PMS X W (.If c a b pos) (S_if fc f g) := by
  refine ⟨(ps_if hc.pt ha.pss hb.pss).imp fun E σ H ⟨r, h, m, x, w⟩ => ?_⟩
  unfold S_if at w
  refine ⟨r, h, m, x, (WgS.bind (RR0 := RRe) w).imp fun b H1 ⟨r1, h1, b', hr1, p1, rv, w1⟩ => ?_⟩
  cases rv
  have x1 := x.post p1 hr1
  cases b with
  | true => exact ⟨r1, h1, m, x1, w1⟩
  | false => exact ⟨r1, h1, m, x1, w1⟩
theorem pms_never : PMS X W st S_never := ⟨ps_never.imp fun E σ H ⟨r, h, m, x, w⟩ => w.elim⟩
theorem pms_pass : PMS X W (.Pass pos) S_pass := ⟨ps_pass.imp fun E σ H ⟨r, h, m, x, w⟩ => w r H σ x .refl⟩
theorem pms_break : PMS X W (.Break pos) S_break := ⟨ps_break.imp fun E σ H ⟨r, h, m, x, w⟩ => w r H σ x .refl⟩
theorem pms_cont : PMS X W (.Continue pos) S_cont := ⟨ps_continue.imp fun E σ H ⟨r, h, m, x, w⟩ => w r H σ x .refl⟩
end

/-! ### while -/
def turnK (vs : List Nat) (x : Res Fl) (k : Loc → Cells → Res Fl) : Res Fl := match x with
  | .ok (.nx m) h => k (m.wipe vs) h
  | .ok (.ct m) h => k (m.wipe vs) h
  | .ok (.bk m) h => .ok (.nx m) h
  | .ok (.rt d) h => .ok (.rt d) h
  | .exc x h => .exc x h
  | .stuck => .stuck
@[simp] theorem turnK_nx (vs : List Nat) (m : Loc) (h : Cells) (k : Loc → Cells → Res Fl) : turnK vs (.ok (.nx m) h) k = k (m.wipe vs) h := rfl
@[simp] theorem turnK_ct (vs : List Nat) (m : Loc) (h : Cells) (k : Loc → Cells → Res Fl) : turnK vs (.ok (.ct m) h) k = k (m.wipe vs) h := rfl
@[simp] theorem turnK_bk (vs : List Nat) (m : Loc) (h : Cells) (k : Loc → Cells → Res Fl) : turnK vs (.ok (.bk m) h) k = .ok (.nx m) h := rfl
@[simp] theorem turnK_rt (vs : List Nat) (d : D) (h : Cells) (k : Loc → Cells → Res Fl) : turnK vs (.ok (.rt d) h) k = .ok (.rt d) h := rfl
@[simp] theorem turnK_stuck (vs : List Nat) (k : Loc → Cells → Res Fl) : turnK vs .stuck k = .stuck := rfl
section
variable {K : PySem.W.Frag} {W : Wish}
theorem WgS.turn {vs : List Nat} {res : Res Fl} {k : Loc → Cells → Res Fl} {r : Rm} {h : Cells} {H : Hp} {E : Ends} (w : WgS K W (turnK vs res k) r h H E) {N : L2.St → Hp → Prop}
    (hN : ∀ σ1 H1 r1 h1 m1, Rel K r1 h1 H1 m1 σ1 → Post r h H r1 h1 H1 → WgS K W (k m1 h1) r1 h1 H1 E → N σ1 H1) : WgS K W res r h H { E with nx := N, ct := N, bk := E.nx } := by
  cases res with
  | ok a h' => cases a with
    | nx m => exact fun r' H' b hr q => hN b H' r' h' _ (hr.forget vs) q (w.post q)
    | ct m => exact fun r' H' b hr q => hN b H' r' h' _ (hr.forget vs) q (w.post q)
    | rt m => exact w
    | bk m => exact w
  | exc x h' => exact w
  | stuck => exact w.elim
end
def whileN (vs : List Nat) (c : MT) (b : MS) : Nat → MS
  | 0 => fun _ _ => .stuck
  | n + 1 => fun m h => (c m h).bind fun t h1 => if t = true then turnK vs (b m h1) (whileN vs c b n) else .ok (.nx m) h1
/-- fuel is no matter: any that suffices -/
noncomputable def S_while (vs : List Nat) (c : MT) (b : MS) : MS := fun m h => open Classical in if q : ∃ n, whileN vs c b n m h ≠ .stuck then whileN vs c b q.choose m h else .stuck
theorem whileN_mono (vs : List Nat) (c : MT) (b : MS) : ∀ (n : Nat) (m : Loc) (h : Cells), whileN vs c b n m h ≠ .stuck → ∀ j, n ≤ j → whileN vs c b j m h = whileN vs c b n m h
  | 0, m, h, e, _, _ => absurd rfl e
  | n + 1, m, h, e, 0, hj => by omega
  | n + 1, m, h, e, j + 1, hj => by
    simp only [whileN] at e ⊢
    cases ec : c m h with
    | stuck => rfl
    | exc x h' => rfl
    | ok t h1 =>
      rw [ec] at e
      simp only [Res.bind_ok] at e ⊢
      cases t with
      | false => rfl
      | true =>
        simp only [if_true] at e ⊢
        cases eb : b m h1 with
        | stuck => rfl
        | exc x h' => rfl
        | ok a h2 =>
          rw [eb] at e
          cases a with
          | nx m2 => simp only [turnK_nx] at e ⊢; exact whileN_mono vs c b n _ _ e j (by omega)
          | ct m2 => simp only [turnK_ct] at e ⊢; exact whileN_mono vs c b n _ _ e j (by omega)
          | bk m2 => rfl
          | rt d => rfl
theorem S_while_eq {vs : List Nat} {c : MT} {b : MS} {n : Nat} {m : Loc} {h : Cells} (e : whileN vs c b n m h ≠ .stuck) : S_while vs c b m h = whileN vs c b n m h := by
  unfold S_while
  have q : ∃ n, whileN vs c b n m h ≠ .stuck := ⟨n, e⟩
  rw [dif_pos q]
  rcases Nat.le_total n q.choose with hl | hl
  · exact whileN_mono vs c b n m h e _ hl
  · exact (whileN_mono vs c b _ m h q.choose_spec _ hl).symm
/-- one turn -/
theorem S_while_turn (vs : List Nat) (c : MT) (b : MS) (m : Loc) (h : Cells) : S_while vs c b m h = (c m h).bind fun t h1 => if t = true then turnK vs (b m h1) (S_while vs c b) else .ok (.nx m) h1 := by
  by_cases q : ∃ n, whileN vs c b n m h ≠ .stuck
  · obtain ⟨n, e⟩ := q
    rw [S_while_eq e]
    cases n with
    | zero => exact absurd rfl e
    | succ n =>
      simp only [whileN] at e ⊢
      cases ec : c m h with
      | stuck => rfl
      | exc x h' => rfl
      | ok t h1 =>
        rw [ec] at e
        simp only [Res.bind_ok] at e ⊢
        cases t with
        | false => rfl
        | true =>
          simp only [if_true] at e ⊢
          cases eb : b m h1 with
          | stuck => rfl
          | exc x h' => rfl
          | ok a h2 =>
            rw [eb] at e
            cases a with
            | nx m2 => simp only [turnK_nx] at e ⊢; exact (S_while_eq e).symm
            | ct m2 => simp only [turnK_ct] at e ⊢; exact (S_while_eq e).symm
            | bk m2 => rfl
            | rt d => rfl
  · have e1 : S_while vs c b m h = .stuck := by unfold S_while; rw [dif_neg q]
    rw [e1]
    have all : ∀ n, whileN vs c b (n + 1) m h = .stuck := fun n => by
      by_cases z : whileN vs c b (n + 1) m h = .stuck
      · exact z
      · exact absurd ⟨n + 1, z⟩ q
    cases ec : c m h with
    | stuck => rfl
    | exc x h' => have := all 0; simp only [whileN, ec, Res.bind_exc] at this; cases this
    | ok t h1 =>
      simp only [Res.bind_ok]
      cases t with
      | false => have := all 0; simp only [whileN, ec, Res.bind_ok, Bool.false_eq_true, if_false] at this; cases this
      | true =>
        simp only [if_true]
        cases eb : b m h1 with
        | stuck => rfl
        | exc x h' => have := all 0; simp only [whileN, ec, Res.bind_ok, if_true, eb, turnK] at this; cases this
        | ok a h2 =>
          have go : ∀ m2 : Loc, (∀ n, whileN vs c b n (m2.wipe vs) h2 = .stuck) → S_while vs c b (m2.wipe vs) h2 = .stuck := fun m2 z => by
            unfold S_while
            rw [dif_neg (fun ⟨n, y⟩ => y (z n))]
          cases a with
          | nx m2 =>
            simp only [turnK_nx]
            refine (go m2 fun n => ?_).symm
            have := all n; simp only [whileN, ec, Res.bind_ok, if_true, eb, turnK_nx] at this; exact this
          | ct m2 =>
            simp only [turnK_ct]
            refine (go m2 fun n => ?_).symm
            have := all n; simp only [whileN, ec, Res.bind_ok, if_true, eb, turnK_ct] at this; exact this
          | bk m2 => have := all 0; simp only [whileN, ec, Res.bind_ok, if_true, eb, turnK_bk] at this; cases this
          | rt d => have := all 0; simp only [whileN, ec, Res.bind_ok, if_true, eb, turnK_rt] at this; cases this
theorem pms_while {X : Cx} {W : Wish} {pos : Pos} (vs : List Nat) {c : Expr} {body : List Stmt} {fc : MT} {fb : MS} (hp : PassesOwn (model X.prog X.w) X.A X.env X.xe) (hc : PMT X W c fc) (hb : PMSs X W body fb) : PMS X W (.While c body [] pos) (S_while vs fc fb) := by
  refine ⟨(ps_while hp hc.pt hb.pss).imp fun E σ H ⟨r, h, m, x, w⟩ => ?_⟩
  have ne : ∃ n, whileN vs fc fb n m h ≠ .stuck := by
    by_cases q : ∃ n, whileN vs fc fb n m h ≠ .stuck
    · exact q
    · unfold S_while at w
      rw [dif_neg q] at w
      exact w.elim
  obtain ⟨n, e⟩ := ne
  rw [S_while_eq e] at w
  refine ⟨fun k σ H => ∃ r h m, Rel X.K r h H m σ ∧ WgS X.K W (whileN vs fc fb k m h) r h H E, ⟨n, r, h, m, x, w⟩, ?_⟩
  rintro k σ1 H1 ⟨r1, h1, m1, x1, w1⟩
  cases k with
  | zero => exact w1.elim
  | succ k =>
    refine ⟨r1, h1, m1, x1, (WgS.bind (RR0 := RRe) w1).imp fun b H2 ⟨r2, h2, b', hr2, p2, rv, w2⟩ => ?_⟩
    cases rv
    have x2 := x1.post p2 hr2
    cases b with
    | false => exact w2 r2 H2 σ1 x2 .refl
    | true =>
      exact ⟨fun σ' H' => ∃ r h m, Rel X.K r h H' m σ' ∧ WgS X.K W (whileN vs fc fb k m h) r h H' E, fun σ' H' z => ⟨k, Nat.lt_succ_self _, z⟩, r2, h2, m1, x2, WgS.turn w2 fun σ3 H3 r3 h3 m3 x3 p3 w3 => ⟨r3, h3, m3, x3, w3⟩⟩

/-! ### for -/
/-- what a loop walks: its items -/
abbrev MI := Loc → Cells → Res (List D)
def RRi (K : PySem.W.Frag) : RRT (List D) It := fun r h H ds J => ∀ r' h' H', Post0 r h H r' h' H' → HRel K r' h' H' →
  (∀ i, i < ds.length → J.go i H' ∧ ∀ x H2, J.yld i H' x H2 → HRel K r' h' H2 ∧ Post r' h' H' r' h' H2 ∧ ∃ d, ds[i]? = some d ∧ RV K r' h' H2 d x) ∧ J.stop ds.length H'
theorem stb_i {K : PySem.W.Frag} : Stb (RRi K) := fun p x r' h' H' q hr => x r' h' H' (p.p0.trans q) hr
structure PMI (X : Cx) (W : Wish) (tg iter : Expr) (f : MI) : Prop where
  pi : PI X tg iter (tG X.K W (RRi X.K) f)
theorem _root_.L2.PI.imp {X : Cx} {tg e : Expr} {t t' : TI} (h : PI X tg e t) (i : ∀ σ H Q, t' σ H Q → t σ H Q) : PI X tg e t' := ⟨fun pins s σ H Q I w => h.run pins s σ H Q I (i σ H Q w)⟩
def forGo (vs : List Nat) (g : MG) (b : MS) : List D → Loc → Cells → Res Fl
  | [], m, h => .ok (.nx m) h
  | d :: ds, m, h => (g d m h).bind fun m1 h1 => turnK vs (b m1 h1) (forGo vs g b ds)
def S_for (vs : List Nat) (src : MI) (g : MG) (b : MS) : MS := fun m h => (src m h).bind fun ds h1 => forGo vs g b ds m h1
theorem pms_for {X : Cx} {W : Wish} {pos : Pos} (vs : List Nat) {us : List Nat} {tg iter : Expr} {body : List Stmt} {fi : MI} {g : MG} {fb : MS} (hp : PassesOwn (model X.prog X.w) X.A X.env X.xe) (hc : X.calm = true) (hi : PMI X W tg iter fi) (hg : PMG X W us tg g) (hb : PMSs X W body fb) (hs : ∀ x, foldedSetIterable iter X.env x = pure x := by intro _; rfl) :
    PMS X W (.For tg iter body [] pos) (S_for vs fi g fb) := by
  refine ⟨(ps_for hp hc hi.pi hg.pg hb.pss hs).imp fun E σ H ⟨r, h, m, x, w⟩ => ?_⟩
  unfold S_for at w
  refine ⟨r, h, m, x, (WgS.bind (RR0 := RRi X.K) w).imp fun J H1 ⟨r1, h1, ds, hr1, p1, ri, w1⟩ => ?_⟩
  refine ⟨fun i k σ H => k = ds.length - i ∧ i ≤ ds.length ∧ ∃ r h m, Rel X.K r h H m σ ∧ Post0 r1 h1 H1 r h H ∧ WgS X.K W (forGo vs g fb (ds.drop i) m h) r h H E, ⟨ds.length, rfl, Nat.zero_le _, r1, h1, m, x.post p1 hr1, .refl, w1⟩, ?_⟩
  rintro i k σ2 H2 ⟨rfl, hi, r2, h2, m2, x2, p2, w2⟩
  have z := ri r2 h2 H2 p2 x2.hr
  by_cases hlt : i < ds.length
  · obtain ⟨go, yl⟩ := z.1 i hlt
    refine .inr ⟨go, fun σ' H' => ds.length - (i + 1) = ds.length - (i + 1) ∧ i + 1 ≤ ds.length ∧ ∃ r h m, Rel X.K r h H' m σ' ∧ Post0 r1 h1 H1 r h H' ∧ WgS X.K W (forGo vs g fb (ds.drop (i + 1)) m h) r h H' E, fun σ' H' q => ⟨ds.length - (i + 1), by omega, q⟩, fun v H3 y => ?_⟩
    obtain ⟨hr3, p3, d, ed, rd⟩ := yl v H3 y
    have eds : ds.drop i = d :: ds.drop (i + 1) := by
      rw [List.getElem?_eq_getElem hlt] at ed
      cases ed
      exact (List.drop_eq_getElem_cons hlt)
    rw [eds] at w2
    simp only [forGo] at w2
    have x3 := x2.post p3 hr3
    refine ⟨r2, h2, m2, d, x3, rd, ((WgS.bindL (w2.post p3)).imp fun σ4 H4 ⟨r4, h4, m4, x4, p4, w4⟩ => ?_)⟩
    exact ⟨r4, h4, m4, x4, WgS.turn w4 fun σ5 H5 r5 h5 m5 x5 p5 w5 => ⟨rfl, hlt, r5, h5, m5, x5, ((p2.trans p3.p0).trans p4.p0).trans p5.p0, w5⟩⟩
  · have e : i = ds.length := by omega
    subst e
    rw [List.drop_length] at w2
    exact .inl ⟨z.2, w2 r2 H2 σ2 x2 .refl⟩
end Mi

/-! Mi8: what loops walk: sequences, ranges, enumerate, zip, dicts. -/
namespace Mi
open PySem PySem.Spec PyProof.Rows L2

/-! ### enumerate of a tuple -/
def IteT (K : PySem.W.Frag) (a : Addr) : It where
  go := fun i H => ∃ (xs : List V) (x : V), SqT K H a xs ∧ xs[i]? = some x
  yld := fun i H v H' => ∃ T x, v = .ref T ∧ H T = none ∧ H' = upd H T (.tup [.int (i : Nat), x]) ∧ ∀ xs, SqT K H a xs → xs[i]? = some x
  stop := fun i H => ∃ xs : List V, SqT K H a xs ∧ xs.length = i
theorem turn_enumT {P : Program} {w : World} {K : PySem.W.Frag} {elts : List Expr} {kk : Nat} {tpos : Pos} (a e it : Addr) :
    Turn P w K (.Tuple elts kk tpos) (IteT K a) [e, it] e (fun i h => (∃ old, IsEnum h e it ((i : Nat) : Int) old) ∧ h.IsTupleIter it a i ∧ e ≠ it ∧ e ≠ a ∧ it ≠ a) where
  mem := by simp
  obj := fun i h st b hb => by
    obtain ⟨⟨old, he⟩, ⟨o, ho, hc, hd⟩, _⟩ := st
    have e' : b = e ∨ b = it := by simpa using hb
    cases e' with
    | inl z => rw [z]; exact ⟨_, he, fun v q => nomatch q⟩
    | inr z => rw [z]; exact ⟨o, ho, fun v q => by rw [hd] at q; cases q⟩
  keep := fun i h h' st k => let ⟨⟨old, he⟩, hi, r⟩ := st; ⟨⟨old, k e (by simp) _ he⟩, hi.at fun o q => k it (by simp) o q, r⟩
  item := by
    intro X hP hw hK hc i pins s σ H E I hf st hg
    subst hP hw hK
    obtain ⟨⟨old, he⟩, hit, hne, hea, hia⟩ := st
    obtain ⟨xs, x, hq, hx⟩ := hg
    obtain ⟨its, rv, p, hz⟩ := I.tuple hq
    obtain ⟨u, hu, ru⟩ := rv.get hx
    have p' : s.heap.IsTuple a its.toArray := p
    have hlt : i < its.toArray.size := by
      rw [List.size_toArray]
      exact (List.getElem?_eq_some_iff.mp hu).1
    have hel : e < s.heap.objs.size := Heap.lt_size he
    have hil : it < s.heap.objs.size := by obtain ⟨_, q, _⟩ := hit; exact Heap.lt_size q
    refine wpAny_pyNext_enum_itemD (Draws.tuple (A := X.A.in1) (I.ok.hd hc) it a hia.symm its.toArray) he ⟨hit, p'⟩ hlt hne (by simp only [List.mem_cons, List.not_mem_nil, or_false, not_or]; exact ⟨hne, hea⟩) fun y h' tk hy ho st' hT hsz hk => ?_
    have ey : y = u := by
      have hy : its.toArray[i]? = some y := hy
      rw [List.getElem?_toArray, hu] at hy
      exact (Option.some.inj hy).symm
    subst ey
    refine ⟨_, rfl, wpAny_letOwnedTupleGo_enum (s := { s with heap := h', toks := tk + 1 }) ho fun h'' he' sb => ?_⟩
    have hT2 : h''.get? s.heap.objs.size = some { cls := .type "tuple", data := .seq #[.int i tk, y] } := (sb.2 _ (Nat.ne_of_gt hel)).trans hT
    have new : ObjOk X.prog X.w (upd H s.heap.objs.size (.tup [.int (i : Nat), x])) h'' s.heap.objs.size (.tup [.int (i : Nat), x]) :=
      ⟨by show 2 ≤ sizeLine; decide, [.int i tk, y], .cons ⟨_, rfl⟩ (.cons ru .nil), ⟨_, hT2, rfl, _, rfl⟩⟩
    have I1 : Inv X pins σ (upd H s.heap.objs.size (.tup [.int (i : Nat), x])) { s with heap := h'', toks := tk + 1 } :=
      I.turnedNew (ch := [e, it]) (fun b ob hb q => by
        have h1 : b ≠ e := fun z => hb (by simp [z])
        have h2 : b ≠ it := fun z => hb (by simp [z])
        exact (sb.2 b h1).trans (hk b ob h1 h2 q)) hf (Nat.le_refl _) new
    have e1 : ((i + 1 : Nat) : Int) = (i : Int) + 1 := by omega
    refine ⟨.ref s.heap.objs.size, _, I1, rfl, ⟨_, x, rfl, I.hok.fresh (Nat.le_refl _), rfl, fun ys hy => by rw [I.tuple_inj hy hq]; exact hx⟩, ⟨⟨y, by rw [e1]; exact he'⟩, st'.1.at fun o q => (sb.2 it hne.symm).trans q, hne, hea, hia⟩, fun b hb => ?_⟩
    have hb' : b < s.heap.objs.size := by
      have e' : b = e ∨ b = it := by simpa using hb
      cases e' with
      | inl z => rw [z]; exact hel
      | inr z => rw [z]; exact hil
    rw [upd_ne (Nat.ne_of_lt hb')]
    exact (hf b hb).1
  done := by
    intro X hP hw hK hc i pins s σ H E I hf st hg
    subst hP hw hK
    obtain ⟨⟨old, he⟩, hit, hne, hea, hia⟩ := st
    obtain ⟨xs, hq, hx⟩ := hg
    obtain ⟨its, rv, p, hz⟩ := I.tuple hq
    have hl := rv.length
    have p' : s.heap.IsTuple a its.toArray := p
    obtain ⟨f0, f1, f2, f3, f4, f5⟩ := hf it (by simp)
    have ei : its.toArray.size = i := by rw [List.size_toArray]; omega
    have D := Draws.tuple (prog := X.prog) (w := X.w) (A := X.A.in1) (I.ok.hd hc) it a hia.symm its.toArray
    rw [ei] at D
    exact wpAny_pyNext_enum_endD D he ⟨hit, p'⟩ fun h' eb => ⟨rfl, I.turned (t' := s.toks) (fun b o hb q => eb b o hb q) f0 f1 f3 f4 f5⟩
  self := fun A i s Q E st h => let ⟨⟨_, he⟩, _⟩ := st; wpAny_pyIter_enum he h
def iEnT (K : PySem.W.Frag) (ta : TA) : TI := fun σ H R => ta σ H fun vs H1 => ∃ a xs, vs = [.ref a] ∧ ((SqL K H1 a xs ∧ R (Ite K a) H1) ∨ (SqT K H1 a xs ∧ R (IteT K a) H1))
theorem meets_enum_tup {v : Value} {o : Obj} {H : Heap → Prop} (B : Begins v o H) :
    Meets (Builtin.«enumerate.__new__» ⟨[.type "enumerate", v], []⟩) (fun _ R s => H s.heap ∧
      R (.ok (.ret (.ref (s.heap.push o).objs.size))) { s with heap := (s.heap.push o).push { cls := .type "enumerate", data := .fields #[.none, .bool false, .ref s.heap.objs.size, rawInt 0, .none, .none] } }) :=
  .of_wp fun prog w A R s h => by
    obtain ⟨hp, g, d, tk, os⟩ := s
    obtain ⟨h1, h⟩ := h
    have hsub := sub_enumerate
    have q1 : ∀ {A' : Around} {E : Value → Shared → Prop} {Q : Value → Shared → Prop}, Q (.ref hp.objs.size) ⟨hp.push o, g, d, tk, os⟩ → wpAny (model prog w) A' (pyIter v) Q E ⟨hp, g, d, tk, os⟩ :=
      fun q => B.iter prog w _ _ ⟨hp, g, d, tk, os⟩ _ h1 q
    wp_walk using q1
    refine wpAny_stack_any fun st => wpAny_pure ?_
    split
    · rename_i c _ _ _ _ _
      cases (c == Value.type "enumerate")
      · wp_walk using q1
        exact ⟨_, rfl, h⟩
      · wp_walk using q1
        exact ⟨_, rfl, h⟩
    · wp_walk using q1
      exact ⟨_, rfl, h⟩
theorem call_enum_tup {prog : Program} {w : World} {A : Around} {E : Value → Shared → Prop} {s : Shared} {v : Value} {o : Obj} {H : Heap → Prop} {Q : Value → Shared → Prop} (B : Begins v o H) (h1 : H s.heap)
    (h : ∀ h', IsEnum h' (s.heap.objs.size + 1) s.heap.objs.size 0 .none → h'.get? s.heap.objs.size = some o → h'.objs.size = s.heap.objs.size + 2 →
      (∀ b o, s.heap.get? b = some o → h'.get? b = some o) → Q (.ref (s.heap.objs.size + 1)) { s with heap := h' }) :
    wpAny (model prog w) A (call (.type "enumerate") [v]) Q E s := by
  refine callType_new F.called_enumerate (by decide) (F.typeCall_enumerate_1 _) (F.newCall_enumerate_1 _) (fun obj => F.args_object_init_2 obj _) F.entry_enumerate_new (meets_enum_tup B) ⟨h1, ?_⟩
  have hz : (s.heap.push o).objs.size = s.heap.objs.size + 1 := Heap.size_push ..
  show _ ∧ _
  rw [hz]
  have he : IsEnum ((s.heap.push o).push { cls := .type "enumerate", data := .fields #[.none, .bool false, .ref s.heap.objs.size, rawInt 0, .none, .none] }) (s.heap.objs.size + 1) s.heap.objs.size 0 .none := by
    have := Heap.get?_push_size (s.heap.push o) (o := { cls := .type "enumerate", data := .fields #[.none, .bool false, .ref s.heap.objs.size, rawInt 0, .none, .none] }) rfl
    rw [hz] at this; exact this
  exact ⟨⟨_, he, rfl⟩, h _ he (Heap.get?_push_of_some _ (Heap.get?_push_size _ B.free)) (by rw [Heap.size_push, hz]) fun b o x => Heap.get?_push_of_some _ (Heap.get?_push_of_some _ x)⟩
theorem pi_enT {X : Cx} {e : Expr} {ta : TA} {p pos tpos : Pos} {elts : List Expr} {kk : Nat} (hg : Gl X "enumerate") (hm : X.mg "enumerate" = none) (ha : PA X [e] ta) (hs : starEach [e] X.env = [(false, eval e X.env)] := by rfl) :
    PI X (.Tuple elts kk tpos) (.Call (.Name "enumerate" p) [e] [] pos) (iEnT X.K ta) := by
  refine ⟨fun pins s σ H R I h => Call_ (ld_blt I hg hm boot_enumerate (PyProof.Rows.callWith_type1 (thn (ha.run pos pins s σ H _ I h) fun us s1 ⟨vs, H1, I1, r1, q1⟩ => ?_) hs rfl))⟩
  obtain ⟨a, xs, rfl, q⟩ := q1
  obtain rfl := Vals.ref1 r1
  have fr : ∀ b, b ∈ [s1.heap.objs.size + 1, s1.heap.objs.size] → FpOk X pins H1 b := fun b hb => by
    have hle : s1.heap.objs.size ≤ b := by
      have e' : b = s1.heap.objs.size + 1 ∨ b = s1.heap.objs.size := by simpa using hb
      cases e' with
      | inl z => rw [z]; exact Nat.le_add_right _ _
      | inr z => rw [z]; exact Nat.le_refl _
    exact I1.fpOk hle (I1.hok.fresh hle)
  rcases q with ⟨hq, q⟩ | ⟨hq, q⟩
  · obtain ⟨its, rv, p', hz⟩ := I1.list hq
    refine call_enum_tup (begins_list a its.toArray) p'.isList fun h' he hit hsz hk => wpAny_pyIter_enum he ?_
    exact ⟨s1.heap.objs.size + 1, [s1.heap.objs.size + 1, s1.heap.objs.size], _, _, H1, rfl, I1.kept (t' := s1.toks) hk, turn_enum a (s1.heap.objs.size + 1) s1.heap.objs.size, ⟨⟨.none, he⟩, ⟨_, hit, rfl, rfl⟩, Nat.succ_ne_self _⟩, fr, q⟩
  · obtain ⟨its, rv, p', hz⟩ := I1.tuple hq
    have p2 : s1.heap.IsTuple a its.toArray := p'
    have lt : a < s1.heap.objs.size := by obtain ⟨o, ho, _⟩ := p2; exact Heap.lt_size ho
    refine call_enum_tup (begins_tuple a its.toArray) p2 fun h' he hit hsz hk => wpAny_pyIter_enum he ?_
    exact ⟨s1.heap.objs.size + 1, [s1.heap.objs.size + 1, s1.heap.objs.size], _, _, H1, rfl, I1.kept (t' := s1.toks) hk, turn_enumT a (s1.heap.objs.size + 1) s1.heap.objs.size, ⟨⟨.none, he⟩, ⟨_, hit, rfl, rfl⟩, Nat.succ_ne_self _, fun z => by rw [← z] at lt; exact absurd lt (Nat.not_lt.mpr (Nat.le_succ _)), fun z => by rw [← z] at lt; exact absurd lt (Nat.lt_irrefl _)⟩, fr, q⟩
theorem walk_enT {K : PySem.W.Frag} {a : Addr} {xs : List V} : Walk (IteT K a) xs.length (fun H => SqT K H a xs) (fun i H v H' => ∃ T x, v = .ref T ∧ H T = none ∧ H' = upd H T (.tup [.int (i : Nat), x]) ∧ xs[i]? = some x) :=
  ⟨fun i _ hi q => ⟨xs, xs[i], q, by simp [hi]⟩, fun _ q => ⟨xs, q, rfl⟩, fun i H v H' _ q ⟨T, x, h1, h2, h3, h4⟩ => ⟨T, x, h1, h2, h3, h4 xs q⟩⟩
/-- a list or a tuple, walked -/
def iAny (K : PySem.W.Frag) (tl : TE) : TI := fun σ H R => tl σ H fun x H1 => ∃ a xs, x = .ref a ∧ ((SqL K H1 a xs ∧ R (Itl K a) H1) ∨ (SqT K H1 a xs ∧ R (Itt K a) H1))
theorem pi_anyS {X : Cx} {tg l : Expr} {tl : TE} (hl : PE X l tl) : PI X tg l (iAny X.K tl) := by
  refine ⟨fun pins s σ H R I h => thn (hl.run pins s σ H _ I h) fun v s1 ⟨x, H1, I1, r1, a, xs, ex, q⟩ => ?_⟩
  subst ex
  cases (show v = Value.ref a from r1)
  have fr : ∀ b, b ∈ [s1.heap.objs.size] → FpOk X pins H1 b := fun b hb => by
    have e : b = s1.heap.objs.size := by simpa using hb
    rw [e]
    exact I1.fpOk (Nat.le_refl _) (I1.hok.fresh (Nat.le_refl _))
  rcases q with ⟨hq, q⟩ | ⟨hq, q⟩
  · obtain ⟨its, rv, p, hz⟩ := I1.list hq
    exact wpAny_pyIter_list p.isList ⟨_, _, _, _, H1, rfl, I1.kept (t' := s1.toks) fun b o e => Heap.get?_push_of_some _ e, turn_list a s1.heap.objs.size, ⟨_, Heap.get?_push_size _ rfl, rfl, rfl⟩, fr, q⟩
  · obtain ⟨its, rv, p, hz⟩ := I1.tuple hq
    exact wpAny_pyIter_tuple (show s1.heap.IsTuple a its.toArray from p) ⟨_, _, _, _, H1, rfl, I1.kept (t' := s1.toks) fun b o e => Heap.get?_push_of_some _ e, turn_tuple a s1.heap.objs.size, ⟨_, Heap.get?_push_size _ rfl, rfl, rfl⟩, fr, q⟩

/-! ### what is walked, as lists of D -/
section
variable {K : PySem.W.Frag} {W : Wish} {r : Rm} {h : Cells} {H : Hp} {J : It}
theorem RVs.rget : ∀ {ds : List D} {vs : List V} {i : Nat} {v : V}, RVs K r h H ds vs → vs[i]? = some v → ∃ d, ds[i]? = some d ∧ RV K r h H d v
  | [], vs, i, v, x, e => by rw [x.of_nil] at e; simp at e
  | d :: ds, vs, i, v, x, e => by
    obtain ⟨u, w, rfl, a, b⟩ := x.of_cons
    cases i with
    | zero => simp only [List.getElem?_cons_zero, Option.some.injEq] at e; subst e; exact ⟨d, rfl, a⟩
    | succ i => simp only [List.getElem?_cons_succ] at e ⊢; exact b.rget e
theorem rri_at {ds : List D} {vs : List V} {G : Hp → Prop} (y : RVs K r h H ds vs) (w : Walk J vs.length G (YAt vs)) (hG : ∀ r' h' H', Post0 r h H r' h' H' → G H') : RRi K r h H ds J := by
  intro r' h' H' p hr
  have l := y.length
  refine ⟨fun i hi => ⟨w.goes i H' (by omega) (hG _ _ _ p), fun x H2 yl => ?_⟩, by rw [l]; exact w.stops H' (hG _ _ _ p)⟩
  obtain ⟨e, ex⟩ := w.yields i H' x H2 (by omega) (hG _ _ _ p) yl
  subst e
  obtain ⟨d, ed, rd⟩ := (y.post p).rget ex
  exact ⟨hr, .refl, d, ed, rd⟩
theorem rri_pair {ds : List D} {f g : Nat → Option V} {a b : Nat → Option D} {G : Hp → Prop} (w : Walk J ds.length G (YPair f g)) (hG : ∀ r' h' H', Post0 r h H r' h' H' → G H')
    (hd : ∀ i x y r' h' H', i < ds.length → Post0 r h H r' h' H' → f i = some x → g i = some y → ∃ d e, ds[i]? = some (.tup [d, e]) ∧ RV K r' h' H' d x ∧ RV K r' h' H' e y) : RRi K r h H ds J := by
  intro r' h' H' p hr
  refine ⟨fun i hi => ⟨w.goes i H' hi (hG _ _ _ p), fun v H2 yl => ?_⟩, w.stops H' (hG _ _ _ p)⟩
  obtain ⟨T, x, y, rfl, hT, rfl, ex, ey⟩ := w.yields i H' v H2 hi (hG _ _ _ p) yl
  obtain ⟨d, e, ed, rd, re⟩ := hd i x y r' h' H' hi p ex ey
  have q := Post.new hr hT (o := .tup [x, y])
  refine ⟨hr.new hT, q, _, ed, ?_⟩
  simp only [RV]
  exact ⟨T, [x, y], rfl, upd_same, RVs.cons (rd.post q.p0) (RVs.cons (re.post q.p0) RVs.nil)⟩
/-- a sequence that nobody writes -/
def seqF : D → Option (List D)
  | .lst xs => some xs
  | .scr xs => some xs
  | .tup xs => some xs
  | _ => none
theorem seqF_ok {d : D} {v : V} {xs : List D} (rv : RV K r h H d v) (e : seqF d = some xs) : ∃ a vs, v = .ref a ∧ (SqX K r h H a vs ∨ H a = some (.tup vs)) ∧ RVs K r h H xs vs := by
  cases d with
  | lst ys =>
    cases (show some ys = some xs from e)
    simp only [RV] at rv
    obtain ⟨a, vs, e1, nl, e2, y⟩ := rv
    exact ⟨a, vs, e1, .inl (.inr (.inr ⟨e2, nl⟩)), y⟩
  | scr ys =>
    cases (show some ys = some xs from e)
    simp only [RV] at rv
    obtain ⟨a, vs, e1, e2, y⟩ := rv
    exact ⟨a, vs, e1, .inl e2, y⟩
  | tup ys =>
    cases (show some ys = some xs from e)
    obtain ⟨a, vs, e1, e2, y⟩ := tup_ok rv
    exact ⟨a, vs, e1, .inr e2, y⟩
  | _ => cases e
end
def I_seq (f : ME) : MI := fun m h => (f m h).bind fun d h1 => match seqF d with | some xs => .ok xs h1 | none => .stuck
def rngD (a b : Int) : List D := (List.range (b - a).toNat).map fun (i : Nat) => .int (a + i)
def I_rng (g : MA) : MI := fun m h => (g m h).bind fun ds h1 => match ds with
  | [.int b] => if -(2 ^ 62) ≤ b ∧ b < 2 ^ 62 then .ok (rngD 0 b) h1 else .stuck
  | _ => .stuck
def I_rng2 (g : MA) : MI := fun m h => (g m h).bind fun ds h1 => match ds with
  | [.int a, .int b] => if -(2 ^ 62) ≤ a ∧ a < 2 ^ 62 ∧ -(2 ^ 62) ≤ b ∧ b < 2 ^ 62 then .ok (rngD a b) h1 else .stuck
  | _ => .stuck
def enumD : Nat → List D → List D
  | _, [] => []
  | i, d :: ds => .tup [.int (i : Nat), d] :: enumD (i + 1) ds
def I_enum (f : ME) : MI := fun m h => (f m h).bind fun d h1 => match seqF d with | some xs => .ok (enumD 0 xs) h1 | none => .stuck
def zipD (xs ys : List D) : List D := (xs.zip ys).map fun p => .tup [p.1, p.2]
def lsF : D → Option (List D)
  | .lst xs => some xs
  | .scr xs => some xs
  | _ => none
def zip2D : D → D → Option (List D)
  | .tup xs, .tup ys => some (zipD xs ys)
  | a, b => (match lsF a, lsF b with | some xs, some ys => some (zipD xs ys) | _, _ => none)
def I_zip (g : MA) : MI := fun m h => (g m h).bind fun ds h1 => match ds with
  | [a, b] => (match zip2D a b with | some zs => .ok zs h1 | none => .stuck)
  | _ => .stuck
theorem enumD_get : ∀ {k i : Nat} {ds : List D}, (enumD k ds)[i]? = (ds[i]?).map fun d => .tup [.int ((k + i : Nat) : Int), d]
  | k, i, [] => by simp [enumD]
  | k, 0, d :: ds => by simp [enumD]
  | k, i + 1, d :: ds => by
    simp only [enumD, List.getElem?_cons_succ, enumD_get]
    rw [show k + 1 + i = k + (i + 1) by omega]
theorem enumD_length : ∀ {k : Nat} {ds : List D}, (enumD k ds).length = ds.length
  | k, [] => rfl
  | k, d :: ds => by simp [enumD, enumD_length]
section
variable {X : Cx} {W : Wish} {tg e : Expr} {f : ME} {g : MA}
theorem pmi_seq (he : PM X W e f) : PMI X W tg e (I_seq f) := by
  refine ⟨(pi_anyS he.pe).imp fun σ H R ⟨r, h, m, x, w⟩ => ?_⟩
  unfold I_seq at w
  refine ⟨r, h, m, x, (Wg.bind (RR0 := RRv X.K) w).imp fun v H1 ⟨r1, h1, d, hr, p, rd, _, w1⟩ => ?_⟩
  split at w1
  · rename_i xs e1
    obtain ⟨a, vs, rfl, q, y⟩ := seqF_ok rd e1
    rcases q with q | q
    · exact ⟨a, vs, rfl, .inl ⟨q.sq, w1 r1 H1 _ hr .refl (rri_at y walk_list fun r' h' H' p => (q.post p).sq)⟩⟩
    · exact ⟨a, vs, rfl, .inr ⟨.inl (.inl q), w1 r1 H1 _ hr .refl (rri_at y walk_tup fun r' h' H' p => .inl (.inl (p.kT _ _ q)))⟩⟩
  · exact w1.elim
theorem rng_rri {K : PySem.W.Frag} {r : Rm} {h : Cells} {H : Hp} {a b : Int} : RRi K r h H (rngD a b) (Itr a (b - a).toNat) := by
  intro r' h' H' p hr
  have l : (rngD a b).length = (b - a).toNat := by simp [rngD]
  refine ⟨fun i hi => ⟨show i < _ by omega, fun x H2 yl => ?_⟩, by rw [l]; exact Nat.le_refl _⟩
  obtain ⟨e1, e2⟩ := yl
  subst e1; subst e2
  refine ⟨hr, .refl, .int (a + i), ?_, rv_int⟩
  rw [rngD, List.getElem?_map, List.getElem?_range (by omega)]
  rfl
theorem pmi_rng1 {a : Expr} {p pos : Pos} (ha : PMA X W [a] g) (hm : X.mg "range" = none) (hg : Gl X "range" := by rfl) (hs : starEach [a] X.env = [(false, eval a X.env)] := by rfl) : PMI X W tg (.Call (.Name "range" p) [a] [] pos) (I_rng g) := by
  refine ⟨(pi_range1 hg hm ha.pa hs).imp fun σ H R ⟨r, h, m, x, w⟩ => ?_⟩
  unfold I_rng at w
  refine ⟨r, h, m, x, (Wg.bind (RR0 := RRs X.K) w).imp fun vs H1 ⟨r1, h1, ds, hr, p, rd, e1, w1⟩ => ?_⟩
  split at w1
  · split at w1
    · rename_i b q
      obtain ⟨v, rfl, rb⟩ := rvs1 rd
      have := rng_rri (K := X.K) (r := r1) (h := h1) (H := H1) (a := 0) (b := b)
      rw [Int.sub_zero] at this
      exact ⟨b, by rw [int_ok rb], q.1, q.2, w1 r1 H1 _ hr .refl this⟩
    · exact w1.elim
  · exact w1.elim
theorem pmi_rng2 {a b : Expr} {p pos : Pos} (ha : PMA X W [a, b] g) (hm : X.mg "range" = none) (hg : Gl X "range" := by rfl) (hs : starEach [a, b] X.env = [(false, eval a X.env), (false, eval b X.env)] := by rfl) (hs2 : starEach [b] X.env = [(false, eval b X.env)] := by rfl) :
    PMI X W tg (.Call (.Name "range" p) [a, b] [] pos) (I_rng2 g) := by
  refine ⟨(pi_range2 hg hm ha.pa hs hs2).imp fun σ H R ⟨r, h, m, x, w⟩ => ?_⟩
  unfold I_rng2 at w
  refine ⟨r, h, m, x, (Wg.bind (RR0 := RRs X.K) w).imp fun vs H1 ⟨r1, h1, ds, hr, p, rd, e1, w1⟩ => ?_⟩
  split at w1
  · split at w1
    · rename_i i j q
      obtain ⟨v, u, rfl, ri, rj⟩ := rvs2 rd
      exact ⟨i, j, by rw [int_ok ri, int_ok rj], q, w1 r1 H1 _ hr .refl rng_rri⟩
    · exact w1.elim
  · exact w1.elim
theorem pmi_enum {tpos : Pos} {elts : List Expr} {kk : Nat} {p pos : Pos} (he : PM X W e f) (hm : X.mg "enumerate" = none) (hg : Gl X "enumerate" := by rfl) (hs : starEach [e] X.env = [(false, eval e X.env)] := by rfl) :
    PMI X W (.Tuple elts kk tpos) (.Call (.Name "enumerate" p) [e] [] pos) (I_enum f) := by
  refine ⟨(pi_enT hg hm (pma_cons he pma_nil (by rw [hs]; rfl)).pa hs).imp fun σ H R ⟨r, h, m, x, w⟩ => ?_⟩
  unfold I_enum at w
  refine ⟨r, h, m, x, ?_⟩
  unfold A_cons
  cases ef : f m h with
  | stuck => rw [ef] at w; exact w.elim
  | exc y h' => rw [ef] at w; exact w
  | ok d h1 =>
    rw [ef] at w
    simp only [Res.bind_ok, A_nil] at w ⊢
    intro r1 H1 vs hr p rs
    obtain ⟨v, rfl, rd⟩ := rvs1 rs
    split at w
    · rename_i xs e1
      obtain ⟨a, vs, rfl, q, y⟩ := seqF_ok rd e1
      have w1 := w.post p
      have l := y.length
      have key : ∀ (i : Nat) (x y1 : V) (r' : Rm) (h' : Cells) (H' : Hp), i < (enumD 0 xs).length → Post0 r1 h1 H1 r' h' H' → some (V.int (i : Nat)) = some x → vs[i]? = some y1 → ∃ d e, (enumD 0 xs)[i]? = some (.tup [d, e]) ∧ RV X.K r' h' H' d x ∧ RV X.K r' h' H' e y1 := by
        intro i x y1 r' h' H' hi p' ex ey
        cases ex
        obtain ⟨d, ed, rd⟩ := (y.post p').rget ey
        exact ⟨.int (i : Nat), d, by rw [enumD_get, ed, Nat.zero_add]; rfl, rv_int, rd⟩
      rcases q with q | q
      · refine ⟨a, vs, rfl, .inl ⟨q.sq, w1 r1 H1 _ hr .refl (rri_pair (f := fun i => some (V.int (i : Nat))) (g := fun i => vs[i]?) (G := fun H => SqL X.K H a vs) (a := fun _ => none) (b := fun _ => none) ?_ (fun r' h' H' p => (q.post p).sq) key)⟩⟩
        rw [enumD_length, l]
        exact walk_enum
      · refine ⟨a, vs, rfl, .inr ⟨.inl (.inl q), w1 r1 H1 _ hr .refl (rri_pair (f := fun i => some (V.int (i : Nat))) (g := fun i => vs[i]?) (G := fun H => SqT X.K H a vs) (a := fun _ => none) (b := fun _ => none) ?_ (fun r' h' H' p => .inl (.inl (p.kT _ _ q))) key)⟩⟩
        rw [enumD_length, l]
        exact walk_enT.mono (fun _ q => q) fun i H v H' _ _ ⟨T, x, h1, h2, h3, h4⟩ => ⟨T, _, x, h1, h2, h3, rfl, h4⟩
    · exact w.elim
theorem walk_zipT {K : PySem.W.Frag} {a b : Addr} {xs ys : List V} {n : Nat} (hn : n = min xs.length ys.length) : Walk (RZ.ItzT K a b) n (fun H => SqT K H a xs ∧ SqT K H b ys) (YPair (fun i => xs[i]?) (fun i => ys[i]?)) := by
  subst hn
  refine ⟨fun i _ hi q => ⟨xs, ys, xs[i]'(by omega), ys[i]'(by omega), q.1, q.2, by simp [show i < xs.length by omega], by simp [show i < ys.length by omega]⟩, fun _ q => ⟨xs, ys, q.1, q.2, by omega⟩, fun i H v H' _ q ⟨T, x, z, h1, h2, h3, h4, h5⟩ => ⟨T, x, z, h1, h2, h3, h4 xs q.1, h5 ys q.2⟩⟩
theorem zipD_length (xs ys : List D) : (zipD xs ys).length = min xs.length ys.length := by simp [zipD]
theorem zip_key {K : PySem.W.Frag} {r : Rm} {h : Cells} {H : Hp} {xs ys : List D} {vs us : List V} (ya : RVs K r h H xs vs) (yb : RVs K r h H ys us) : ∀ (i : Nat) (x y1 : V) (r' : Rm) (h' : Cells) (H' : Hp), i < (zipD xs ys).length → Post0 r h H r' h' H' → vs[i]? = some x → us[i]? = some y1 →
    ∃ d e, (zipD xs ys)[i]? = some (.tup [d, e]) ∧ RV K r' h' H' d x ∧ RV K r' h' H' e y1 := by
  intro i x y1 r' h' H' hi p' e1 e2
  obtain ⟨d, ed, rd⟩ := (ya.post p').rget e1
  obtain ⟨e, ee, re⟩ := (yb.post p').rget e2
  refine ⟨d, e, ?_, rd, re⟩
  have q : (xs.zip ys)[i]? = some (d, e) := List.getElem?_zip_eq_some.mpr ⟨ed, ee⟩
  rw [zipD, List.getElem?_map, q]
  rfl
theorem lsF_ok {K : PySem.W.Frag} {r : Rm} {h : Cells} {H : Hp} {d : D} {v : V} {xs : List D} (rv : RV K r h H d v) (e : lsF d = some xs) : ∃ a vs, v = .ref a ∧ SqX K r h H a vs ∧ RVs K r h H xs vs := by
  cases d with
  | lst ys =>
    cases (show some ys = some xs from e)
    simp only [RV] at rv
    obtain ⟨a, vs, e1, nl, e2, y⟩ := rv
    exact ⟨a, vs, e1, .inr (.inr ⟨e2, nl⟩), y⟩
  | scr ys =>
    cases (show some ys = some xs from e)
    simp only [RV] at rv
    exact rv
  | _ => cases e
theorem pmi_zip {e2 : Expr} {tpos : Pos} {elts : List Expr} {kk : Nat} {p pos : Pos} (ha : PMA X W [e, e2] g) (hm : X.mg "zip" = none) (hg : Gl X "zip" := by rfl) (hs : starEach [e, e2] X.env = (false, eval e X.env) :: starEach [e2] X.env := by rfl) (hpl : (backTo pos (starEach [e2] X.env)).any (·.1) = false := by rfl) :
    PMI X W (.Tuple elts kk tpos) (.Call (.Name "zip" p) [e, e2] [] pos) (I_zip g) := by
  refine ⟨(RZ.pi_zipA hg hm ha.pa hs hpl).imp fun σ H R ⟨r, h, m, x, w⟩ => ?_⟩
  unfold I_zip at w
  refine ⟨r, h, m, x, (Wg.bind (RR0 := RRs X.K) w).imp fun vs H1 ⟨r1, h1, ds, hr, p, rd, e1, w1⟩ => ?_⟩
  split at w1
  case h_2 => exact w1.elim
  rename_i d1 d2
  split at w1
  case h_2 => exact w1.elim
  rename_i zs ez
  obtain ⟨v, u, rfl, rv, ru⟩ := rvs2 rd
  unfold zip2D at ez
  split at ez
  · cases ez
    obtain ⟨a, vs, rfl, qa, ya⟩ := tup_ok rv
    obtain ⟨b, us, rfl, qb, yb⟩ := tup_ok ru
    refine ⟨a, b, vs, us, rfl, .inr ⟨.inl (.inl qa), .inl (.inl qb), w1 r1 H1 _ hr .refl (rri_pair (f := fun i => vs[i]?) (g := fun i => us[i]?) (G := fun H => SqT X.K H a vs ∧ SqT X.K H b us) (a := fun _ => none) (b := fun _ => none) (walk_zipT (by rw [zipD_length, ya.length, yb.length])) (fun r' h' H' p => ⟨.inl (.inl (p.kT _ _ qa)), .inl (.inl (p.kT _ _ qb))⟩) (zip_key ya yb))⟩⟩
  · split at ez
    · rename_i xs ys ex ey
      cases ez
      obtain ⟨a, vs, rfl, qa, ya⟩ := lsF_ok rv ex
      obtain ⟨b, us, rfl, qb, yb⟩ := lsF_ok ru ey
      refine ⟨a, b, vs, us, rfl, .inl ⟨qa.sq, qb.sq, w1 r1 H1 _ hr .refl (rri_pair (f := fun i => vs[i]?) (g := fun i => us[i]?) (G := fun H => SqL X.K H a vs ∧ SqL X.K H b us) (a := fun _ => none) (b := fun _ => none) (walk_zip (by rw [zipD_length, ya.length, yb.length])) (fun r' h' H' p => ⟨(qa.post p).sq, (qb.post p).sq⟩) (zip_key ya yb))⟩⟩
    · cases ez
end
end Mi

/-! Mi9: comprehensions. -/
namespace Mi
open PySem PySem.Spec PyProof.Rows L2

/-! ### a list that is under way -/
structure Hid (K : PySem.W.Frag) (W : Wish) (r1 : Rm) (h1 : Cells) (H1 : Hp) (p : Addr) (r : Rm) (h : Cells) (H : Hp) (acc : List D) : Prop where
  hr : HRel K r h H
  p0 : Post0 (r1.hide p) h1 (upd H1 p (.lst [])) r h H
  us : r.u = p :: r1.u
  bs : r.b = r1.b
  kU : ∀ a ∈ r1.u, H a = H1 a
  acc : ∃ vs, H p = some (.lst vs) ∧ RVs K r h H acc vs
  tr : ∀ x h', W.p r1 h1 H1 x h' → W.p r h H x h'
theorem wipe_sub (σ : L2.St) (vs : List Nat) : ∀ us : List Nat, (∀ u ∈ us, u ∈ vs) → wipe (wipe σ us) vs = wipe σ vs
  | [], _ => rfl
  | u :: us, hu => by
    show wipe ((wipe σ us).set u none) vs = _
    rw [wipe_set _ u none (hu u List.mem_cons_self)]
    exact wipe_sub σ vs us fun w hw => hu w (List.mem_cons_of_mem _ hw)
theorem wipe_idem (σ : L2.St) (vs : List Nat) : wipe (wipe σ vs) vs = wipe σ vs := wipe_sub σ vs vs fun _ h => h
section
variable {K : PySem.W.Frag} {W : Wish} {r1 r r' : Rm} {h1 h h' : Cells} {H1 H H' : Hp} {p : Addr} {acc : List D}
theorem Hid.start (hr : HRel K r1 h1 H1) (hp : H1 p = none) : Hid K W r1 h1 H1 p (r1.hide p) h1 (upd H1 p (.lst [])) [] where
  hr := hr.hide hp fun vs z => by cases z
  p0 := .refl
  us := rfl
  bs := rfl
  kU := fun a ha => by rw [upd_ne (fun z : a = p => hr.notu hp (z ▸ ha))]
  acc := ⟨[], upd_same, RVs.nil⟩
  tr := fun x h' z => W.hide hp (hr.notu hp) z
theorem Hid.step (g : Hid K W r1 h1 H1 p r h H acc) (hr : HRel K r' h' H') (q : Post r h H r' h' H') : Hid K W r1 h1 H1 p r' h' H' acc where
  hr := hr
  p0 := g.p0.trans q.p0
  us := q.us.trans g.us
  bs := q.bs.trans g.bs
  kU := fun a ha => (q.kU a (by rw [g.us]; exact List.mem_cons_of_mem _ ha)).trans (g.kU a ha)
  acc := by
    obtain ⟨vs, e, y⟩ := g.acc
    exact ⟨vs, (q.kU p (by rw [g.us]; exact List.mem_cons_self)).trans e, y.post q.p0⟩
  tr := fun x h' z => W.mono q (g.tr x h' z)
theorem Hid.push (g : Hid K W r1 h1 H1 p r h H acc) (hr1 : HRel K r1 h1 H1) (hp : H1 p = none) {d : D} {v : V} {vs : List V} (e : H p = some (.lst vs)) (rd : RV K r h H d v) : Hid K W r1 h1 H1 p r h (upd H p (.lst (vs ++ [v]))) (acc ++ [d]) := by
  have hu : p ∈ r.u := by rw [g.us]; exact List.mem_cons_self
  have ho : ∀ ws, (HO.lst (vs ++ [v])) ≠ .tup ws := fun ws z => by cases z
  have q0 : Post0 r h H r h (upd H p (.lst (vs ++ [v]))) := Post0.wr hu e fun ws z => by cases z
  refine ⟨g.hr.wr hu ho, g.p0.trans q0, g.us, g.bs, fun a ha => ?_, ⟨vs ++ [v], upd_same, ?_⟩, fun x h' z => ?_⟩
  · rw [upd_ne (fun z : a = p => hr1.notu hp (z ▸ ha))]; exact g.kU a ha
  · obtain ⟨ws, e2, y⟩ := g.acc
    rw [e] at e2; cases e2
    exact (y.post q0).append (RVs.cons (rd.post q0) RVs.nil)
  · exact W.wr hu (fun hm => hr1.notu hp (W.sub z p hm)) (fun ws z => by rw [e] at z; cases z) (g.tr x h' z)
theorem Hid.fin {lv : Bool} {Q : VK} (g : Hid K W r1 h1 H1 p r h H acc) (hr1 : HRel K r1 h1 H1) (hp : H1 p = none) (w : Wg K W (RRv K) (alloc lv (.lst acc) h) r1 h1 H1 Q) : Q (.ref p) H := by
  obtain ⟨vs, e, y⟩ := g.acc
  have un : p ∉ r1.u := hr1.notu hp
  have q := Post.shown hr1 hp g.hr g.p0 g.us g.bs g.kU
  have hd := g.hr.drop g.us un
  have y2 := y.post (Post0.drop g.hr g.us)
  have z := alloc_lst hd y2 (w.post q) p del_same
  rw [upd_del] at z
  have eH : upd H p (.lst vs) = H := by
    funext b
    by_cases hb : b = p
    · rw [hb, upd_same, e]
    · rw [upd_ne hb]
  rw [eH] at z
  exact z
end

def T_yes : MT := fun _ h => .ok true h
structure PMTs (X : Cx) (W : Wish) (ifs : List Expr) (f : MT) : Prop where
  pts : PTs X ifs (tG X.K W RRe f)
theorem _root_.L2.PTs.imp {X : Cx} {e : List Expr} {t t' : TT} (h : PTs X e t) (i : ∀ σ H Q, t' σ H Q → t σ H Q) : PTs X e t' := ⟨fun pins s σ H Q I w => h.run pins s σ H Q I (i σ H Q w)⟩
theorem pmts_nil {X : Cx} {W : Wish} : PMTs X W [] T_yes := ⟨pts_nil.imp fun σ H Q ⟨r, h, m, x, w⟩ => w r H true x.hr .refl rfl⟩
theorem pmts_one {X : Cx} {W : Wish} {c : Expr} {f : MT} (hc : PMT X W c f) : PMTs X W [c] f := ⟨pts_one hc.pt⟩

def lcGo (g : MG) (c : MT) (e : ME) (m0 : Loc) : List D → List D → Cells → Res (List D)
  | [], acc, h => .ok acc h
  | d :: ds, acc, h => (g d m0 h).bind fun m1 h1 => (c m1 h1).bind fun b h2 => if b = true then (e m1 h2).bind fun y h3 => if acc.length < big then lcGo g c e m0 ds (acc ++ [y]) h3 else .stuck else lcGo g c e m0 ds acc h2
def E_lc (lv : Bool) (vs : List Nat) (src : MI) (g : MG) (c : MT) (e : ME) : ME := fun m h => (src m h).bind fun ds h1 => (lcGo g c e (m.wipe vs) ds [] h1).bind fun acc h2 => alloc lv (.lst acc) h2
def lc2Go (g : MG) (c : MT) (vs1 : List Nat) (src1 : MI) (g1 : MG) (c1 : MT) (e : ME) (m0 : Loc) : List D → List D → Cells → Res (List D)
  | [], acc, h => .ok acc h
  | d :: ds, acc, h => (g d m0 h).bind fun m1 h1 => (c m1 h1).bind fun b h2 => if b = true then (src1 m1 h2).bind fun ds1 h3 => (lcGo g1 c1 e (m1.wipe vs1) ds1 acc h3).bind fun acc' h4 => lc2Go g c vs1 src1 g1 c1 e m0 ds acc' h4
    else lc2Go g c vs1 src1 g1 c1 e m0 ds acc h2
def E_lc2 (lv : Bool) (vs vs1 : List Nat) (src : MI) (g : MG) (c : MT) (src1 : MI) (g1 : MG) (c1 : MT) (e : ME) : ME := fun m h => (src m h).bind fun ds h1 => (lc2Go g c vs1 src1 g1 c1 e (m.wipe vs) ds [] h1).bind fun acc h2 => alloc lv (.lst acc) h2

section
variable {K : PySem.W.Frag} {W : Wish}
/-- a wish at the loop's start, told at a turn -/
theorem Hid.wish {γ δ α β : Type} {RR : RRT γ δ} {RR0 : RRT α β} {r1 r : Rm} {h1 h : Cells} {H1 H : Hp} {p : Addr} {acc : List D} (g : Hid K W r1 h1 H1 p r h H acc) {Q : δ → Hp → Prop} {res : Res α} {k : α → Cells → Res γ}
    (w : Wg K W RR (res.bind k) r1 h1 H1 Q) : Wg K W RR0 res r h H fun b H2 => ∃ r2 h2 a, res = .ok a h2 ∧ Hid K W r1 h1 H1 p r2 h2 H2 acc ∧ Post r h H r2 h2 H2 ∧ RR0 r2 h2 H2 a b ∧ Wg K W RR (k a h2) r1 h1 H1 Q := by
  cases res with
  | ok a h' => exact fun r' H' b hr q rr => ⟨r', h', a, rfl, g.step hr q, q, rr, w⟩
  | exc x h' => exact g.tr x h' w
  | stuck => exact w.elim
theorem Hid.wishL {γ δ : Type} {RR : RRT γ δ} {vs : List Nat} {σ : L2.St} {r1 r : Rm} {h1 h : Cells} {H1 H : Hp} {p : Addr} {acc : List D} (g : Hid K W r1 h1 H1 p r h H acc) {Q : δ → Hp → Prop} {res : Res Loc} {k : Loc → Cells → Res γ}
    (w : Wg K W RR (res.bind k) r1 h1 H1 Q) : WgL K W vs σ res r h H fun σ2 H2 => ∃ r2 h2 m2, Rel K r2 h2 H2 m2 σ2 ∧ Hid K W r1 h1 H1 p r2 h2 H2 acc ∧ Post r h H r2 h2 H2 ∧ wipe σ2 vs = wipe σ vs ∧ Wg K W RR (k m2 h2) r1 h1 H1 Q := by
  cases res with
  | ok a h' => exact fun r' H' σ' hr q e => ⟨r', h', a, hr, g.step hr.hr q, q, e, w⟩
  | exc x h' => exact g.tr x h' w
  | stuck => exact w.elim
theorem Rel.at {r r' : Rm} {h h' : Cells} {H H' : Hp} {m : Loc} {σ : L2.St} (x : Rel K r h H m σ) (hr : HRel K r' h' H') (p : Post0 r h H r' h' H') (e : r'.b = r.b) : Rel K r' h' H' m σ := ⟨hr, x.lr.post p, by rw [e]; exact x.hb, by rw [e]; exact x.hm⟩
/-- one clause's turns: from the list under way to the end N -/
theorem lc_turns {γ δ : Type} {RR : RRT γ δ} {r1 : Rm} {h1 : Cells} {H1 : Hp} {p : Addr} {g : MG} {c : MT} {e : ME} {vs : List Nat} {m0 : Loc} {σ : L2.St} {ds : List D} {acc0 : List D} {h0 : Cells} {r0 : Rm} {H0 : Hp} {J : It} {Q : δ → Hp → Prop} {k : List D → Cells → Res γ} {N : Hp → Prop}
    (hr1 : HRel K r1 h1 H1) (hp : H1 p = none) (ri : RRi K r0 h0 H0 ds J) (x0 : Rel K r0 h0 H0 m0 (wipe σ vs)) (g0 : Hid K W r1 h1 H1 p r0 h0 H0 acc0)
    (w : Wg K W RR ((lcGo g c e m0 ds acc0 h0).bind k) r1 h1 H1 Q)
    (fin : ∀ r h H acc, Hid K W r1 h1 H1 p r h H acc → Post0 r0 h0 H0 r h H → Wg K W RR (k acc h) r1 h1 H1 Q → N H) :
    ∃ Wv : Nat → Nat → Hp → Prop, (∃ m, Wv 0 m H0) ∧ ∀ i m H, Wv i m H → (J.stop i H ∧ N H) ∨ (J.go i H ∧ ∃ Nx : Hp → Prop, (∀ H', Nx H' → ∃ m', m' < m ∧ Wv (i + 1) m' H') ∧ ∀ x H', J.yld i H x H' → tGt K W vs g x (wipe σ vs) H' fun σ2 H2 => wipe σ2 vs = wipe σ vs ∧ tG K W RRe c σ2 H2 fun b H3 =>
      if b = true then tG K W (RRv K) e σ2 H3 fun y H4 => ∃ acc, H4 p = some (.lst acc) ∧ acc.length < sizeLine ∧ Nx (upd H4 p (.lst (acc ++ [y]))) else Nx H3) := by
  refine ⟨fun i n H => n = ds.length - i ∧ i ≤ ds.length ∧ ∃ r h acc, Hid K W r1 h1 H1 p r h H acc ∧ Rel K r h H m0 (wipe σ vs) ∧ Post0 r0 h0 H0 r h H ∧ Wg K W RR ((lcGo g c e m0 (ds.drop i) acc h).bind k) r1 h1 H1 Q, ⟨ds.length, rfl, Nat.zero_le _, r0, h0, acc0, g0, x0, .refl, w⟩, ?_⟩
  rintro i n H2 ⟨rfl, hi, r2, h2, acc, g2, x2, p2, w2⟩
  have z := ri r2 h2 H2 p2 g2.hr
  by_cases hlt : i < ds.length
  · obtain ⟨go, yl⟩ := z.1 i hlt
    refine .inr ⟨go, fun H' => i + 1 ≤ ds.length ∧ ∃ r h acc, Hid K W r1 h1 H1 p r h H' acc ∧ Rel K r h H' m0 (wipe σ vs) ∧ Post0 r0 h0 H0 r h H' ∧ Wg K W RR ((lcGo g c e m0 (ds.drop (i + 1)) acc h).bind k) r1 h1 H1 Q,
      fun H' q => ⟨ds.length - (i + 1), by omega, rfl, q⟩, fun v H3 y => ?_⟩
    obtain ⟨hr3, p3, d, ed, rd⟩ := yl v H3 y
    have eds : ds.drop i = d :: ds.drop (i + 1) := by
      rw [List.getElem?_eq_getElem hlt] at ed
      cases ed
      exact (List.drop_eq_getElem_cons hlt)
    rw [eds] at w2
    simp only [lcGo] at w2
    rw [Res.bind_assoc] at w2
    have g3 := g2.step hr3 p3
    have x3 := x2.at hr3 p3.p0 p3.bs
    refine ⟨r2, h2, m0, d, x3, rd, (g3.wishL w2).imp fun σ4 H4 ⟨r4, h4, m4, x4, g4, p4, e4, w4⟩ => ⟨e4.trans (wipe_idem σ vs), ?_⟩⟩
    rw [Res.bind_assoc] at w4
    have x04 := x3.at g4.hr p4.p0 p4.bs
    refine ⟨r4, h4, m4, x4, (g4.wish (RR0 := RRe) w4).imp fun b H5 ⟨r5, h5, b', _, g5, p5, eb, w5⟩ => ?_⟩
    cases eb
    have x5 := x4.at g5.hr p5.p0 p5.bs
    have x05 := x04.at g5.hr p5.p0 p5.bs
    have P5 := ((p2.trans p3.p0).trans p4.p0).trans p5.p0
    cases b with
    | false => exact ⟨hlt, r5, h5, acc, g5, x05, P5, w5⟩
    | true =>
      simp only [if_true] at w5 ⊢
      rw [Res.bind_assoc] at w5
      refine ⟨r5, h5, m4, x5, (g5.wish (RR0 := RRv K) w5).imp fun yv H6 ⟨r6, h6, y', _, g6, p6, ry, w6⟩ => ?_⟩
      obtain ⟨ws, e6, ya⟩ := g6.acc
      split at w6
      · rename_i hl
        refine ⟨ws, e6, by rw [← ya.length]; exact Nat.lt_trans hl big_line, hlt, r6, h6, acc ++ [y'], g6.push hr1 hp e6 ry, ?_, ?_, w6⟩
        · have hu : p ∈ r6.u := by rw [g6.us]; exact List.mem_cons_self
          exact (x05.at g6.hr p6.p0 p6.bs).at (g6.push hr1 hp e6 ry).hr (Post0.wr hu e6 fun ws z => by cases z) rfl
        · have hu : p ∈ r6.u := by rw [g6.us]; exact List.mem_cons_self
          exact (P5.trans p6.p0).trans (Post0.wr hu e6 fun ws z => by cases z)
      · exact w6.elim
  · have e : i = ds.length := by omega
    subst e
    rw [List.drop_length] at w2
    exact .inl ⟨z.2, fin r2 h2 H2 acc g2 p2 w2⟩

theorem lc_ok {X : Cx} {lv : Bool} {vs : List Nat} {src : MI} {g : MG} {c : MT} {e : ME} {σ : L2.St} {H : Hp} {Q : VK} (t : tG K W (RRv K) (E_lc lv vs src g c e) σ H Q) :
    tLc (tG K W (RRi K) src) (tGt K W vs g) (tG K W RRe c) (tG K W (RRv K) e) vs σ H Q := by
  obtain ⟨r, h, m, x, w⟩ := t
  unfold E_lc at w
  refine ⟨r, h, m, x, (Wg.bind (RR0 := RRi K) w).imp fun J H1 ⟨r1, h1, ds, hr1, p1, ri, _, w1⟩ => fun p hp => ?_⟩
  have g0 := Hid.start (W := W) hr1 hp
  have x1 := (x.post p1 hr1).wipe vs
  have q0 := Post0.hide (r := r1) (h := h1) (o := .lst []) hp
  exact lc_turns (ds := ds) hr1 hp (fun r' h' H' q hr => ri r' h' H' (q0.trans q) hr) (x1.at g0.hr q0 rfl) g0 w1 fun r h H acc g _ w => g.fin hr1 hp w
theorem lc2_ok {X : Cx} {lv : Bool} {vs vs1 : List Nat} {src src1 : MI} {g g1 : MG} {c c1 : MT} {e : ME} {σ : L2.St} {H : Hp} {Q : VK} (t : tG K W (RRv K) (E_lc2 lv vs vs1 src g c src1 g1 c1 e) σ H Q) :
    tLc2 (tG K W (RRi K) src) (tGt K W vs g) (tG K W RRe c) (tG K W (RRi K) src1) (tGt K W vs1 g1) (tG K W RRe c1) (tG K W (RRv K) e) vs vs1 σ H Q := by
  obtain ⟨r, h, m, x, w⟩ := t
  unfold E_lc2 at w
  refine ⟨r, h, m, x, (Wg.bind (RR0 := RRi K) w).imp fun J H1 ⟨r1, h1, ds, hr1, p1, ri, _, w1⟩ => fun p hp => ?_⟩
  have g0 := Hid.start (W := W) hr1 hp
  have x1 := (x.post p1 hr1).wipe vs
  have q0 := Post0.hide (r := r1) (h := h1) (o := .lst []) hp
  refine ⟨fun i n H => n = ds.length - i ∧ i ≤ ds.length ∧ ∃ r h acc, Hid K W r1 h1 H1 p r h H acc ∧ Rel K r h H (m.wipe vs) (wipe σ vs) ∧ Wg K W (RRv K) ((lc2Go g c vs1 src1 g1 c1 e (m.wipe vs) (ds.drop i) acc h).bind fun acc h2 => alloc lv (.lst acc) h2) r1 h1 H1 Q, ⟨ds.length, rfl, Nat.zero_le _, _, h1, [], g0, x1.at g0.hr q0 rfl, w1⟩, ?_⟩
  rintro i n H2 ⟨rfl, hi, r2, h2, acc, g2, x2, w2⟩
  have z := ri r2 h2 H2 (q0.trans g2.p0) g2.hr
  by_cases hlt : i < ds.length
  · obtain ⟨go, yl⟩ := z.1 i hlt
    refine .inr ⟨go, fun H' => i + 1 ≤ ds.length ∧ ∃ r h acc, Hid K W r1 h1 H1 p r h H' acc ∧ Rel K r h H' (m.wipe vs) (wipe σ vs) ∧ Wg K W (RRv K) ((lc2Go g c vs1 src1 g1 c1 e (m.wipe vs) (ds.drop (i + 1)) acc h).bind fun acc h2 => alloc lv (.lst acc) h2) r1 h1 H1 Q,
      fun H' q => ⟨ds.length - (i + 1), by omega, rfl, q⟩, fun v H3 y => ?_⟩
    obtain ⟨hr3, p3, d, ed, rd⟩ := yl v H3 y
    have eds : ds.drop i = d :: ds.drop (i + 1) := by
      rw [List.getElem?_eq_getElem hlt] at ed
      cases ed
      exact (List.drop_eq_getElem_cons hlt)
    rw [eds] at w2
    simp only [lc2Go] at w2
    rw [Res.bind_assoc] at w2
    have g3 := g2.step hr3 p3
    have x3 := x2.at hr3 p3.p0 p3.bs
    refine ⟨r2, h2, m.wipe vs, d, x3, rd, (g3.wishL w2).imp fun σ4 H4 ⟨r4, h4, m4, x4, g4, p4, e4, w4⟩ => ⟨e4.trans (wipe_idem σ vs), ?_⟩⟩
    rw [Res.bind_assoc] at w4
    have x04 := x3.at g4.hr p4.p0 p4.bs
    refine ⟨r4, h4, m4, x4, (g4.wish (RR0 := RRe) w4).imp fun b H5 ⟨r5, h5, b', _, g5, p5, eb, w5⟩ => ?_⟩
    cases eb
    have x5 := x4.at g5.hr p5.p0 p5.bs
    have x05 := x04.at g5.hr p5.p0 p5.bs
    cases b with
    | false => exact ⟨hlt, r5, h5, acc, g5, x05, w5⟩
    | true =>
      simp only [if_true] at w5 ⊢
      rw [Res.bind_assoc] at w5
      refine ⟨r5, h5, m4, x5, (g5.wish (RR0 := RRi K) w5).imp fun J1 H6 ⟨r6, h6, ds1, _, g6, p6, ri1, w6⟩ => ?_⟩
      rw [Res.bind_assoc] at w6
      have x6 := (x5.at g6.hr p6.p0 p6.bs).wipe vs1
      have x06 := x05.at g6.hr p6.p0 p6.bs
      exact lc_turns hr1 hp ri1 x6 g6 w6 fun r7 h7 H7 acc7 g7 p7 w7 => ⟨hlt, r7, h7, acc7, g7, x06.at g7.hr p7 (g7.bs.trans g6.bs.symm), w7⟩
  · have e : i = ds.length := by omega
    subst e
    rw [List.drop_length] at w2
    exact .inl ⟨z.2, g2.fin hr1 hp w2⟩
end
section
variable {X : Cx} {W : Wish} {elt tg iter tg1 iter1 : Expr} {ifs ifs1 : List Expr} {scope : Scope} {pos : Pos} {src src1 : MI} {g g1 : MG} {c c1 : MT} {e : ME}
theorem pm_lc (lv : Bool) (own : List (Str × Nat)) (hc : X.calm = true) (hN : X.N.Nodup) (ok : BlkOk X.N X.env.scope scope own) (hi : PMI X W tg iter src)
    (hg : ∀ (s : Shared) (H : Hp) (C : Addr) (cl : List (Str × Addr)) (fp : List Addr), PMG (X.blk s H scope (compEnvC scope cl C X.env) fp) W (own.map (·.2)) tg g)
    (ht : ∀ (s : Shared) (H : Hp) (C : Addr) (cl : List (Str × Addr)) (fp : List Addr), PMTs (X.blk s H scope (compEnvC scope cl C X.env) fp) W ifs c)
    (he : ∀ (s : Shared) (H : Hp) (C : Addr) (cl : List (Str × Addr)) (fp : List Addr), PM (X.blk s H scope (compEnvC scope cl C X.env) fp) W elt e) (hs : ∀ x, foldedSetIterable iter X.env x = pure x := by intro _; rfl) :
    PM X W (.ListComp elt [⟨tg, iter, ifs, 0⟩] scope pos) (E_lc lv (own.map (·.2)) src g c e) :=
  ⟨(pe_lc (wi := tG X.K W (RRi X.K) src) (g := tGt X.K W (own.map (·.2)) g) (tt := tG X.K W RRe c) (te := tG X.K W (RRv X.K) e) hc hN hi.pi ok (fun s H C cl fp => (hg s H C cl fp).pg) (fun s H C cl fp => (ht s H C cl fp).pts) (fun s H C cl fp => (he s H C cl fp).pe) hs).imp fun σ H Q t => lc_ok (X := X) t⟩
theorem pms_setLc (lv : Bool) (i : Nat) (own : List (Str × Nat)) {y : Str} {py spos : Pos} (hc : X.calm = true) (hN : X.N.Nodup) (ok : BlkOk X.N X.env.scope scope own) (hi : PMI X W tg iter src)
    (hg : ∀ (s : Shared) (H : Hp) (C : Addr) (cl : List (Str × Addr)) (fp : List Addr), PMG (X.blk s H scope (compEnvC scope cl C X.env) fp) W (own.map (·.2)) tg g)
    (ht : ∀ (s : Shared) (H : Hp) (C : Addr) (cl : List (Str × Addr)) (fp : List Addr), PMTs (X.blk s H scope (compEnvC scope cl C X.env) fp) W ifs c)
    (he : ∀ (s : Shared) (H : Hp) (C : Addr) (cl : List (Str × Addr)) (fp : List Addr), PM (X.blk s H scope (compEnvC scope cl C X.env) fp) W elt e) (hs : ∀ x, foldedSetIterable iter X.env x = pure x := by intro _; rfl)
    (hy : X.N[i]? = some y := by rfl) (hyl : X.env.scope.names.lookup y = some .local := by rfl) (hsw : swapsWith (.ListComp elt [⟨tg, iter, ifs, 0⟩] scope pos) (some (.Name y py)) spos.line X.env = pure true := by rfl) :
    PMS X W (.Assign [.Name y py] (.ListComp elt [⟨tg, iter, ifs, 0⟩] scope pos) spos) (S_set i (E_lc lv (own.map (·.2)) src g c e)) := by
  refine ⟨(ps_setLc (wi := tG X.K W (RRi X.K) src) (g := tGt X.K W (own.map (·.2)) g) (tt := tG X.K W RRe c) (te := tG X.K W (RRv X.K) e) hc hN hy hyl hsw hi.pi ok (fun s H C cl fp => (hg s H C cl fp).pg) (fun s H C cl fp => (ht s H C cl fp).pts) (fun s H C cl fp => (he s H C cl fp).pe) hs).imp fun E σ H ⟨r, h, m, x, w⟩ => ?_⟩
  unfold S_set at w
  exact lc_ok (X := X) ⟨r, h, m, x, (WgS.bind (RR0 := RRv X.K) w).imp fun v H1 ⟨r1, h1, d, hr1, p1, rv, w1⟩ => w1 r1 H1 _ ((x.post p1 hr1).set i rv) .refl⟩
theorem pm_lc2 (lv : Bool) (own : List (Str × Nat)) (vs1 : List Nat) (hc : X.calm = true) (hN : X.N.Nodup) (ok : BlkOk X.N X.env.scope scope own) (hi : PMI X W tg iter src)
    (hg : ∀ (s : Shared) (H : Hp) (C : Addr) (cl : List (Str × Addr)) (fp : List Addr), PMG (X.blk s H scope (compEnvC scope cl C X.env) fp) W (own.map (·.2)) tg g)
    (ht : ∀ (s : Shared) (H : Hp) (C : Addr) (cl : List (Str × Addr)) (fp : List Addr), PMTs (X.blk s H scope (compEnvC scope cl C X.env) fp) W ifs c)
    (hi1 : ∀ (s : Shared) (H : Hp) (C : Addr) (cl : List (Str × Addr)) (fp : List Addr), PMI (X.blk s H scope (compEnvC scope cl C X.env) fp) W tg1 iter1 src1)
    (hg1 : ∀ (s : Shared) (H : Hp) (C : Addr) (cl : List (Str × Addr)) (fp : List Addr), PMG (X.blk s H scope (compEnvC scope cl C X.env) fp) W vs1 tg1 g1)
    (ht1 : ∀ (s : Shared) (H : Hp) (C : Addr) (cl : List (Str × Addr)) (fp : List Addr), PMTs (X.blk s H scope (compEnvC scope cl C X.env) fp) W ifs1 c1)
    (he : ∀ (s : Shared) (H : Hp) (C : Addr) (cl : List (Str × Addr)) (fp : List Addr), PM (X.blk s H scope (compEnvC scope cl C X.env) fp) W elt e)
    (hv : ∀ i ∈ vs1, i ∈ own.map (·.2) := by decide) (hs : ∀ x, foldedSetIterable iter X.env x = pure x := by intro _; rfl) (hs1 : ∀ env x, foldedSetIterable iter1 env x = pure x := by intro _ _; rfl) :
    PM X W (.ListComp elt [⟨tg, iter, ifs, 0⟩, ⟨tg1, iter1, ifs1, 0⟩] scope pos) (E_lc2 lv (own.map (·.2)) vs1 src g c src1 g1 c1 e) :=
  ⟨(pe_lc2 (wi := tG X.K W (RRi X.K) src) (g := tGt X.K W (own.map (·.2)) g) (tt := tG X.K W RRe c) (te := tG X.K W (RRv X.K) e) (wi1 := tG X.K W (RRi X.K) src1) (g1 := tGt X.K W vs1 g1) (tt1 := tG X.K W RRe c1) hc hN hi.pi ok hv (fun s H C cl fp => (hg s H C cl fp).pg) (fun s H C cl fp => (ht s H C cl fp).pts) (fun s H C cl fp => (hi1 s H C cl fp).pi) (fun s H C cl fp => (hg1 s H C cl fp).pg) (fun s H C cl fp => (ht1 s H C cl fp).pts) (fun s H C cl fp => (he s H C cl fp).pe) hs hs1).imp fun σ H Q t => lc2_ok (X := X) t⟩
theorem pms_setLc2 (lv : Bool) (i : Nat) (own : List (Str × Nat)) (vs1 : List Nat) {y : Str} {py spos : Pos} (hc : X.calm = true) (hN : X.N.Nodup) (ok : BlkOk X.N X.env.scope scope own) (hi : PMI X W tg iter src)
    (hg : ∀ (s : Shared) (H : Hp) (C : Addr) (cl : List (Str × Addr)) (fp : List Addr), PMG (X.blk s H scope (compEnvC scope cl C X.env) fp) W (own.map (·.2)) tg g)
    (ht : ∀ (s : Shared) (H : Hp) (C : Addr) (cl : List (Str × Addr)) (fp : List Addr), PMTs (X.blk s H scope (compEnvC scope cl C X.env) fp) W ifs c)
    (hi1 : ∀ (s : Shared) (H : Hp) (C : Addr) (cl : List (Str × Addr)) (fp : List Addr), PMI (X.blk s H scope (compEnvC scope cl C X.env) fp) W tg1 iter1 src1)
    (hg1 : ∀ (s : Shared) (H : Hp) (C : Addr) (cl : List (Str × Addr)) (fp : List Addr), PMG (X.blk s H scope (compEnvC scope cl C X.env) fp) W vs1 tg1 g1)
    (ht1 : ∀ (s : Shared) (H : Hp) (C : Addr) (cl : List (Str × Addr)) (fp : List Addr), PMTs (X.blk s H scope (compEnvC scope cl C X.env) fp) W ifs1 c1)
    (he : ∀ (s : Shared) (H : Hp) (C : Addr) (cl : List (Str × Addr)) (fp : List Addr), PM (X.blk s H scope (compEnvC scope cl C X.env) fp) W elt e)
    (hv : ∀ i ∈ vs1, i ∈ own.map (·.2) := by decide) (hs : ∀ x, foldedSetIterable iter X.env x = pure x := by intro _; rfl) (hs1 : ∀ env x, foldedSetIterable iter1 env x = pure x := by intro _ _; rfl)
    (hy : X.N[i]? = some y := by rfl) (hyl : X.env.scope.names.lookup y = some .local := by rfl) (hsw : swapsWith (.ListComp elt [⟨tg, iter, ifs, 0⟩, ⟨tg1, iter1, ifs1, 0⟩] scope pos) (some (.Name y py)) spos.line X.env = pure true := by rfl) :
    PMS X W (.Assign [.Name y py] (.ListComp elt [⟨tg, iter, ifs, 0⟩, ⟨tg1, iter1, ifs1, 0⟩] scope pos) spos) (S_set i (E_lc2 lv (own.map (·.2)) vs1 src g c src1 g1 c1 e)) := by
  refine ⟨(ps_setLc2 (wi := tG X.K W (RRi X.K) src) (g := tGt X.K W (own.map (·.2)) g) (tt := tG X.K W RRe c) (te := tG X.K W (RRv X.K) e) (wi1 := tG X.K W (RRi X.K) src1) (g1 := tGt X.K W vs1 g1) (tt1 := tG X.K W RRe c1) hc hN hy hyl hsw hi.pi ok hv (fun s H C cl fp => (hg s H C cl fp).pg) (fun s H C cl fp => (ht s H C cl fp).pts) (fun s H C cl fp => (hi1 s H C cl fp).pi) (fun s H C cl fp => (hg1 s H C cl fp).pg) (fun s H C cl fp => (ht1 s H C cl fp).pts) (fun s H C cl fp => (he s H C cl fp).pe) hs hs1).imp fun E σ H ⟨r, h, m, x, w⟩ => ?_⟩
  unfold S_set at w
  exact lc2_ok (X := X) ⟨r, h, m, x, (WgS.bind (RR0 := RRv X.K) w).imp fun v H1 ⟨r1, h1, d, hr1, p1, rv, w1⟩ => w1 r1 H1 _ ((x.post p1 hr1).set i rv) .refl⟩
end
end Mi

/-! Mi10: defs and their calls. -/
namespace Mi
open PySem PySem.Spec PyProof.Rows L2

def argsL (n : Nat) (ds : List D) : List (Option D) := ds.map some ++ List.replicate (n - ds.length) none
/-- a def: p parameters, n slots -/
def mkFn (p n : Nat) (body : MS) : Fn := fun ds h => if ds.length = p then (match body ⟨h.length, argsL n ds⟩ h with
  | .ok (.rt d) h' => if refsLt h.length d = true then .ok d (h'.take h.length) else .stuck
  | .ok (.nx _) h' => .ok .non (h'.take h.length)
  | .exc x h' => .exc x (h'.take h.length)
  | _ => .stuck) else .stuck
/-- a def whose result holds live cells of its own -/
def mkFnL (p n : Nat) (body : MS) : Fn := fun ds h => if ds.length = p then (match body ⟨h.length, argsL n ds⟩ h with
  | .ok (.rt d) h' => .ok d h'
  | _ => .stuck) else .stuck
/-- what a def promises -/
def spF (K : PySem.W.Frag) (f : Fn) : Sp := fun vs H Q _ => ∃ r h ds, HRel K r h H ∧ RVs K r h H ds vs ∧ Wg K W0 (RRv K) (f ds h) r h H Q
section
variable {P : Program} {w : World} {K : PySem.W.Frag} {mg : Str → Option Value} {base : Heap} {W : Wish} {r r1 : Rm} {h h1 : Cells} {H H1 : Hp}
theorem argsL_rel {N : List Str} {ds : List D} {vs : List V} (y : RVs K r h H ds vs) : (argsL N.length ds).length = (L2.start N vs).length ∧ ∀ (i : Nat) d, (argsL N.length ds)[i]? = some (some d) → ∃ v, (L2.start N vs)[i]? = some (some v) ∧ RV K r h H d v := by
  have l := y.length
  refine ⟨by simp [argsL, L2.start, l], fun i d e => ?_⟩
  unfold argsL at e
  unfold L2.start
  by_cases hi : i < ds.length
  · rw [List.getElem?_append_left (by simpa using hi), List.getElem?_map] at e
    cases ed : ds[i]? with
    | none => rw [ed] at e; cases e
    | some d' =>
      rw [ed] at e
      cases e
      obtain ⟨v, ev, rv⟩ := y.get ed
      exact ⟨v, by rw [List.getElem?_append_left (by simpa [← l] using hi), List.getElem?_map, ev]; rfl, rv⟩
  · rw [List.getElem?_append_right (by simp; omega), List.getElem?_replicate] at e
    split at e
    · cases e
    · cases e
theorem Rel.enter {N : List Str} {ds : List D} {vs : List V} (hr : HRel K r h H) (y : RVs K r h H ds vs) : Rel K (r.enter h.length) h H ⟨h.length, argsL N.length ds⟩ (L2.start N vs) := by
  have p : Post0 r h H (r.enter h.length) h H := Post0.bases rfl rfl
  refine ⟨hr.enter, argsL_rel (y.post p), rfl, fun q hq => ?_⟩
  rcases List.mem_cons.mp hq with e | e
  · rw [e]; exact Nat.le_refl _
  · exact hr.bb q e
theorem Post.left (p : Post (r.enter h.length) h H r1 h1 H1) : Post r h H ⟨r1.c, r1.u, r.b⟩ h1 H1 :=
  ⟨(Post0.bases (r := r) (r' := r.enter h.length) rfl rfl).trans (p.p0.trans (Post0.bases (r := r1) (r' := ⟨r1.c, r1.u, r.b⟩) rfl rfl)), p.us, rfl, p.kU⟩
/-- back from a def, its cells forgotten -/
theorem Wg.leave {d : D} {v : V} {Q : VK} (hr0 : HRel K r h H) (hr : HRel K r1 h1 H1) (p : Post (r.enter h.length) h H r1 h1 H1) (rv : RV K r1 h1 H1 d v) (g : refsLt h.length d = true)
    (w : Wg K W (RRv K) (.ok d (h1.take h.length)) r h H Q) : Q v H1 := by
  have eb : r1.b = h.length :: r.b := p.bs
  have hc := hr.cut eb fun q hq => hr0.bb q hq
  have pc := Post.cut p.left hr0.len
  obtain ⟨c1, u1, b1⟩ := r1
  have eb : b1 = h.length :: r.b := eb
  subst eb
  refine w _ H1 v hc pc ?_
  have z := RV.cut (K := K) (n := h.length) (fun a l => l.cut) g rv
  exact z.post (Post0.bases (r := Rm.cut ⟨c1, u1, h.length :: r.b⟩ h.length) (r' := (Rm.cut ⟨c1, u1, h.length :: r.b⟩ h.length).leave) rfl rfl)
theorem HRel.leave (x : HRel K r h H) : HRel K r.leave h H where
  len := x.len
  nd := x.nd
  un := x.un
  bb := fun q hq => x.bb q (List.mem_of_mem_tail hq)
  cell := fun k b d q => by
    obtain ⟨g, a, ea, cv⟩ := x.cell k b d q
    exact ⟨fun q hq => g q (List.mem_of_mem_tail hq), a, ea, cv.post (Post0.bases (r := r) (r' := r.leave) rfl rfl) fun o q => q⟩
/-- back from a def, its cells kept -/
theorem Wg.leaveL {d : D} {v : V} {Q : VK} (hr : HRel K r1 h1 H1) (p : Post (r.enter h.length) h H r1 h1 H1) (rv : RV K r1 h1 H1 d v)
    (w : Wg K W (RRv K) (.ok d h1) r h H Q) : Q v H1 := by
  have eb : r1.b = h.length :: r.b := p.bs
  have pc := p.left
  have hl := hr.leave
  obtain ⟨c1, u1, b1⟩ := r1
  have eb : b1 = h.length :: r.b := eb
  subst eb
  exact w _ H1 v hl pc (rv.post (Post0.bases (r := ⟨c1, u1, h.length :: r.b⟩) (r' := (Rm.leave ⟨c1, u1, h.length :: r.b⟩)) rfl rfl))
theorem mkFn_body {N : List Str} {p : Nat} {body : MS} {ds : List D} {vs : List V} {Q : VK} (hr : HRel K r h H) (y : RVs K r h H ds vs) (w : Wg K W0 (RRv K) (mkFn p N.length body ds h) r h H Q) :
    ds.length = p ∧ tS K W0 body { nx := fun _ H' => Q .non H', rt := Q } (L2.start N vs) H := by
  unfold mkFn at w
  split at w
  case isFalse => exact w.elim
  rename_i hl
  refine ⟨hl, r.enter h.length, h, _, Rel.enter hr y, ?_⟩
  cases eb : body ⟨h.length, argsL N.length ds⟩ h with
  | stuck => rw [eb] at w; exact w.elim
  | exc x h' => rw [eb] at w; exact w
  | ok a h' =>
    rw [eb] at w
    cases a with
    | nx m' => exact fun r' H' σ' x p => Wg.leave hr x.hr p rv_non rfl w
    | bk m' => exact w.elim
    | ct m' => exact w.elim
    | rt d =>
      intro r' H' v hr' p rv
      simp only at w
      split at w
      · rename_i g
        exact Wg.leave hr hr' p rv g w
      · exact w.elim
theorem mkFnL_body {N : List Str} {p : Nat} {body : MS} {ds : List D} {vs : List V} {Q : VK} (hr : HRel K r h H) (y : RVs K r h H ds vs) (w : Wg K W0 (RRv K) (mkFnL p N.length body ds h) r h H Q) :
    ds.length = p ∧ tS K W0 body { nx := fun _ H' => Q .non H', rt := Q } (L2.start N vs) H := by
  unfold mkFnL at w
  split at w
  case isFalse => exact w.elim
  rename_i hl
  refine ⟨hl, r.enter h.length, h, _, Rel.enter hr y, ?_⟩
  cases eb : body ⟨h.length, argsL N.length ds⟩ h with
  | stuck => rw [eb] at w; exact w.elim
  | exc x h' => rw [eb] at w; exact w.elim
  | ok a h' =>
    rw [eb] at w
    cases a with
    | nx m' => exact w.elim
    | bk m' => exact w.elim
    | ct m' => exact w.elim
    | rt d => exact fun r' H' v hr' p rv => Wg.leaveL hr' p rv w
/-- a def by its body -/
theorem fn_body {x : Str} {st : Stmt} {f : Addr} {fd : FuncData} {N ps : List Str} {k p : Nat} {F : Fn} {body : MS} (D : C8.Def K mg x st f fd) (b : Binds K fd ps []) (S : FnScope N ps (C8.fnScope st)) (hp : ps.length = p)
    (hF : ∀ {r h H ds vs Q}, HRel K r h H → RVs K r h H ds vs → Wg K W0 (RRv K) (F ds h) r h H Q → ds.length = p ∧ tS K W0 body { nx := fun _ H' => Q .non H', rt := Q } (L2.start N vs) H)
    (hb : ∀ (cdv : Value) (A : Around) (outer : List Env) (s : Shared) (H : Hp) (E : XK), Room k (A.deeper (envOfC x (C8.fnScope st) s.heap.objs.size f cdv)) → PMSs (cxOf C8.CX0 P w K mg base N x (C8.fnScope st) f cdv A outer s H E).nox W0 (C8.fnBody st) body) :
    C8.Cal P w K mg base (k + 1) x (spF K F) [] := by
  refine C8.cal0 D b .nil S (fun vs H Q E h => ?_) (fun cdv A outer s H vs Q E hr h => ?_)
  · obtain ⟨r, hh, ds, hr, y, w⟩ := h
    rw [← y.length, hp]
    exact (hF hr y w).1
  · obtain ⟨r, hh, ds, hr0, y, w⟩ := h
    exact ⟨_, (hb cdv A outer s H E hr).pss, (hF hr0 y w).2⟩
theorem cal_fn {x : Str} {st : Stmt} {f : Addr} {fd : FuncData} {N ps : List Str} {k p n : Nat} {body : MS} (D : C8.Def K mg x st f fd) (b : Binds K fd ps []) (S : FnScope N ps (C8.fnScope st)) (hp : ps.length = p) (hn : N.length = n)
    (hb : ∀ (cdv : Value) (A : Around) (outer : List Env) (s : Shared) (H : Hp) (E : XK), Room k (A.deeper (envOfC x (C8.fnScope st) s.heap.objs.size f cdv)) → PMSs (cxOf C8.CX0 P w K mg base N x (C8.fnScope st) f cdv A outer s H E).nox W0 (C8.fnBody st) body) :
    C8.Cal P w K mg base (k + 1) x (spF K (mkFn p n body)) [] := by
  subst hn
  exact fn_body D b S hp (fun hr y w => mkFn_body hr y w) hb
theorem cal_fnL {x : Str} {st : Stmt} {f : Addr} {fd : FuncData} {N ps : List Str} {k p n : Nat} {body : MS} (D : C8.Def K mg x st f fd) (b : Binds K fd ps []) (S : FnScope N ps (C8.fnScope st)) (hp : ps.length = p) (hn : N.length = n)
    (hb : ∀ (cdv : Value) (A : Around) (outer : List Env) (s : Shared) (H : Hp) (E : XK), Room k (A.deeper (envOfC x (C8.fnScope st) s.heap.objs.size f cdv)) → PMSs (cxOf C8.CX0 P w K mg base N x (C8.fnScope st) f cdv A outer s H E).nox W0 (C8.fnBody st) body) :
    C8.Cal P w K mg base (k + 1) x (spF K (mkFnL p n body)) [] := by
  subst hn
  exact fn_body D b S hp (fun hr y w => mkFnL_body hr y w) hb
theorem Cal.up {x : Str} {j k : Nat} {sp : Sp} {dvs : List V} (c : C8.Cal P w K mg base j x sp dvs) (h : j ≤ k) : C8.Cal P w K mg base k x sp dvs := by
  obtain ⟨f, fd, ps, ds, F, r⟩ := c.ex
  exact ⟨f, fd, ps, ds, F.mono h, r⟩
/-- a promise may be told by another def that answers as this one where it answers -/
theorem Cal.imp {x : Str} {k : Nat} {F G : Fn} (c : C8.Cal P w K mg base k x (spF K F) []) (i : ∀ ds h, G ds h ≠ .stuck → F ds h = G ds h) : C8.Cal P w K mg base k x (spF K G) [] := by
  obtain ⟨f, fd, ps, ds, Fo, r⟩ := c.ex
  refine ⟨f, fd, ps, ds, Fo.imp fun vs H Q E ⟨r, h, ds, hr, y, w⟩ => ⟨r, h, ds, hr, y, ?_⟩, r⟩
  rw [i ds h (fun e => by rw [e] at w; exact w)]
  exact w
end
section
variable {X : Cx} {k j : Nat} {x : Str} {F : Fn} {g : MA} {e : Expr} {es : List Expr} {p pos : Pos}
theorem pm_call (c : C8.Cal X.prog X.w X.K X.mg X.base k x (spF X.K F) []) (hr : Room j X.A) (hk : k ≤ j) (ha : PMA X W0 (e :: es) g) (hg : Gl X x := by rfl)
    (hdb : (x == ("__debug__" : Str)) = false := by decide) (he : starEach (e :: es) X.env = (false, eval e X.env) :: starEach es X.env := by rfl) (hpl : (backTo pos (starEach es X.env)).any (·.1) = false := by rfl) :
    PM X W0 (.Call (.Name x p) (e :: es) [] pos) (E_fn F g) := by
  refine ⟨(C8.pe_c c hr hk hg ha.pa hdb he hpl).imp fun σ H Q ⟨r, h, m, x, w⟩ => ?_⟩
  unfold E_fn at w
  refine ⟨r, h, m, x, (Wg.bind (RR0 := RRs X.K) w).imp fun vs H1 ⟨r1, h1, ds, hr1, p1, rs, _, w1⟩ => ⟨r1, h1, ds, hr1, by rw [List.append_nil]; exact rs, w1⟩⟩
end
end Mi

/-! Mi11: more rules: chains, three names at once, list(range(..)), get, setdefault, dict displays, keyword calls. -/
namespace Mi
open PySem PySem.Spec PyProof.Rows L2
theorem slot_append : Slot "list" "append" "list.append" := PySem.F.slot_list_append
theorem ty_append : typeOf (.builtin "list.append") = pure (.type "method_descriptor") := PySem.F.type_list_append
theorem slot_extend : Slot "list" "extend" "list.extend" := PySem.F.slot_list_extend
theorem ty_extend : typeOf (.builtin "list.extend") = pure (.type "method_descriptor") := PySem.F.type_list_extend
theorem slot_pop : Slot "list" "pop" "list.pop" := PySem.F.slot_list_pop
theorem ty_pop : typeOf (.builtin "list.pop") = pure (.type "method_descriptor") := PySem.F.type_list_pop
section
variable {X : Cx} {W : Wish} {a b c : Expr} {f f' f'' : ME} {pos : Pos} {op op' : CmpOp} {rule rule' : R2} {g g' : Cells → D → D → Option Bool}
theorem chain_ok {K : PySem.W.Frag} (hs : CmpS K rule g) (hs' : CmpS K rule' g') {σ : L2.St} {H : Hp} {Q : VK} (t : tG K W (RRv K) (E_chain g g' f f' f'') σ H Q) : tChain rule rule' (tG K W (RRv K) f) (tG K W (RRv K) f') (tG K W (RRv K) f'') σ H Q := by
  obtain ⟨r, h, m, x, w⟩ := t
  unfold E_chain at w
  refine ⟨r, h, m, x, (Wg.bind (RR0 := RRv K) w).imp fun v H1 ⟨r1, h1, d, hr1, p1, rd, _, w1⟩ => ?_⟩
  have x1 := x.post p1 hr1
  refine ⟨r1, h1, m, x1, (Wg.bind (RR0 := RRv K) w1).imp fun u H2 ⟨r2, h2, e, hr2, p2, re, _, w2⟩ => ?_⟩
  have x2 := x1.post p2 hr2
  have rd2 := rd.post p2.p0
  cases q : g h2 d e with
  | none => rw [q] at w2; exact w2.elim
  | some k =>
    rw [q] at w2
    simp only [ofOpt_some, Res.bind_ok] at w2
    refine hs r2 h2 H2 d e v u k _ hr2 rd2 re q ⟨k, rfl, ?_⟩
    cases k with
    | false => exact w2 r2 H2 _ hr2 .refl rv_bl
    | true =>
      simp only [if_true] at w2 ⊢
      refine ⟨r2, h2, m, x2, (Wg.bind (RR0 := RRv K) w2).imp fun z H3 ⟨r3, h3, y, hr3, p3, ry, _, w3⟩ => ?_⟩
      cases q' : g' h3 e y with
      | none => rw [q'] at w3; exact w3.elim
      | some k' =>
        rw [q'] at w3
        exact hs' r3 h3 H3 e y u z k' Q hr3 (re.post p3.p0) ry q' (w3 r3 H3 _ hr3 .refl rv_bl)
theorem pm_chain (ho : OpR X (compareOp op) rule) (hs : CmpS X.K rule g) (ho' : OpR X (compareOp op') rule') (hs' : CmpS X.K rule' g') (ha : PM X W a f) (hb : PM X W b f') (hc : PM X W c f'')
    (hm : lastMarks [op, op'] [b, c] = false := by with_unfolding_all rfl) : PM X W (.Compare a [op, op'] [b, c] pos) (E_chain g g' f f' f'') :=
  ⟨(pe_chain ho ho' ha.pe hb.pe hc.pe hm).imp fun σ H Q t => chain_ok hs hs' t⟩
theorem pmt_chain (ho : OpR X (compareOp op) rule) (hs : CmpS X.K rule g) (ho' : OpR X (compareOp op') rule') (hs' : CmpS X.K rule' g') (ha : PM X W a f) (hb : PM X W b f') (hc : PM X W c f'')
    (hm : lastMarks [op, op'] [b, c] = false := by with_unfolding_all rfl) : PMT X W (.Compare a [op, op'] [b, c] pos) (T_E (E_chain g g' f f' f'')) := by
  refine ⟨(pt_chain ho ho' ha.pe hb.pe hc.pe hm).imp fun σ H Q t => ?_⟩
  obtain ⟨r, h, m, x, w⟩ := t
  unfold T_E at w
  refine chain_ok hs hs' ⟨r, h, m, x, (Wg.bind (RR0 := RRv X.K) w).imp fun v H1 ⟨r1, h1, d, hr1, p1, rd, _, w1⟩ => ?_⟩
  cases d with
  | bl k => exact ⟨k, bl_ok rd, w1 r1 H1 k hr1 .refl rfl⟩
  | _ => exact w1.elim
end
section
variable {X : Cx} {W : Wish} {pos : Pos}
theorem pms_par3 (i j l : Nat) {x y z : Str} {a b c : Expr} {fa : MA} {px py pz pt : Pos} {kt k2 pt2} (hc : X.calm = true) (hN : X.N.Nodup) (ha : PMA X W [a, b, c] fa) (hi : X.N[i]? = some x := by rfl) (hj : X.N[j]? = some y := by rfl) (hl : X.N[l]? = some z := by rfl) (hij : i ≠ j := by decide) (hil : i ≠ l := by decide) (hjl : j ≠ l := by decide)
    (hx : X.env.scope.names.lookup x = some .local := by rfl) (hy : X.env.scope.names.lookup y = some .local := by rfl) (hz : X.env.scope.names.lookup z = some .local := by rfl)
    (hw : swappedStores [.Tuple [.Name x px, .Name y py, .Name z pz] kt pt] (.Tuple [a, b, c] k2 pt2) X.env = pure (some [x, y, z]) := by rfl)
    (hs : swapsWithSole [.Tuple [.Name x px, .Name y py, .Name z pz] kt pt] (.Tuple [a, b, c] k2 pt2) pos.line X.env = pure false := by rfl) :
    PMS X W (.Assign [.Tuple [.Name x px, .Name y py, .Name z pz] kt pt] (.Tuple [a, b, c] k2 pt2) pos) (S_par3 i j l fa) := by
  refine ⟨(ps_par3 hc hN hi hj hl hij hil hjl hx hy hz ha.pa hw hs).imp fun E σ H ⟨r, h, m, x, w⟩ => ?_⟩
  unfold S_par3 at w
  refine ⟨r, h, m, x, (WgS.bind (RR0 := RRs X.K) w).imp fun vs H1 ⟨r1, h1, ds, hr1, p1, rs, w1⟩ => ?_⟩
  split at w1
  · obtain ⟨v, vs', rfl, rv, rs'⟩ := rs.of_cons
    obtain ⟨u, t, rfl, ru, rt⟩ := rvs2 rs'
    exact ⟨v, u, t, rfl, w1 r1 H1 _ ((((x.post p1 hr1).set i rv).set j ru).set l rt) .refl⟩
  · exact w1.elim
end
theorem cal_stuck {P : Program} {w : World} {K : PySem.W.Frag} {mg : Str → Option Value} {base : Heap} {x : Str} {st : Stmt} {f : Addr} {fd : FuncData} {ps : List Str} {k : Nat} (D : C8.Def K mg x st f fd) (b : Binds K fd ps []) :
    C8.Cal P w K mg base k x (spF K fun _ _ => .stuck) [] := by
  refine ⟨f, fd, ps, [], ⟨fun vs H Q E h => ?_, fun A outer s H args us vs Q E hr he hb hv h => ?_⟩, D.mgf, D.kp, b, .nil⟩
  · obtain ⟨r, h, ds, hr, y, w⟩ := h; exact w.elim
  · obtain ⟨r, h, ds, hr, y, w⟩ := h; exact w.elim

/-! ### list(range(..)), tuple(range(..)) -/
def rgOkB (a b : Int) : Bool := decide (-(2 ^ 62) ≤ a ∧ a < 2 ^ 62 ∧ -(2 ^ 62) ≤ b ∧ b < 2 ^ 62 ∧ (b - a).toNat ≤ 2 ^ 24)
theorem rgOk_of {a b : Int} (g : rgOkB a b = true) : RgOk a b := by
  have := of_decide_eq_true g
  exact this
def E_listRg (lv : Bool) (g : MA) : ME := fun m h => (g m h).bind fun ds h1 => match ds with
  | [.int b] => if rgOkB 0 b = true then alloc lv (.lst (rngD 0 b)) h1 else .stuck
  | [.int a, .int b] => if rgOkB a b = true then alloc lv (.lst (rngD a b)) h1 else .stuck
  | _ => .stuck
def E_tupRg (g : MA) : ME := fun m h => (g m h).bind fun ds h1 => match ds with
  | [.int b] => if rgOkB 0 b = true then .ok (.tup (rngD 0 b)) h1 else .stuck
  | [.int a, .int b] => if rgOkB a b = true then .ok (.tup (rngD a b)) h1 else .stuck
  | _ => .stuck
section
variable {X : Cx} {W : Wish} {a b : Expr} {f f' : ME} {p p2 pos pos2 : Pos}
theorem rng_rvs {K : PySem.W.Frag} {r : Rm} {h : Cells} {H : Hp} (a b : Int) : RVs K r h H (rngD a b) (rgV a b) := by
  unfold rngD rgV
  induction List.range (b - a).toNat with
  | nil => exact RVs.nil
  | cons i is ih => exact RVs.cons rv_int ih
theorem bind1 {α : Type} {f : ME} {m : Loc} {h : Cells} {k : List D → Cells → Res α} : ((A_cons f A_nil) m h).bind k = (f m h).bind fun d h1 => k [d] h1 := by
  unfold A_cons A_nil
  rw [Res.bind_assoc]
  cases f m h <;> rfl
theorem bind2 {α : Type} {f f' : ME} {m : Loc} {h : Cells} {k : List D → Cells → Res α} : ((A_cons f (A_cons f' A_nil)) m h).bind k = (f m h).bind fun d h1 => (f' m h1).bind fun e h2 => k [d, e] h2 := by
  unfold A_cons A_nil
  rw [Res.bind_assoc]
  cases f m h with
  | ok d h1 => simp only [Res.bind_ok]; cases f' m h1 <;> rfl
  | exc x h1 => rfl
  | stuck => rfl
theorem pm_listRg (lv : Bool) (hc : X.calm = true) (ha : PM X W a f) (hm : X.mg "list" = none) (hm2 : X.mg "range" = none) (hg : Gl X "list" := by rfl) (hg2 : Gl X "range" := by rfl) (na : starEach [a] X.env = (false, eval a X.env) :: starEach [] X.env := by rfl)
    (na2 : starEach [.Call (.Name "range" p2) [a] [] pos2] X.env = (false, eval (.Call (.Name "range" p2) [a] [] pos2) X.env) :: starEach [] X.env := by rfl) : PM X W (.Call (.Name "list" p) [.Call (.Name "range" p2) [a] [] pos2] [] pos) (E_listRg lv (A_cons f A_nil)) := by
  refine ⟨(pe_listRg hc hg hm (prg_1 hg2 hm2 ha.pe na) na2).imp fun σ H Q ⟨r, h, m, x, w⟩ => ?_⟩
  unfold E_listRg at w
  rw [bind1] at w
  refine ⟨r, h, m, x, (Wg.bind (RR0 := RRv X.K) w).imp fun v H1 ⟨r1, h1, d, hr1, p1, rd, _, w1⟩ => ?_⟩
  cases d with
  | int b =>
    simp only at w1
    split at w1
    · rename_i g
      exact ⟨b, int_ok rd, rgOk_of g, alloc_lst hr1 (rng_rvs 0 b) w1⟩
    · exact w1.elim
  | _ => exact w1.elim
theorem pm_listRg2 (lv : Bool) (hc : X.calm = true) (ha : PM X W a f) (hb : PM X W b f') (hm : X.mg "list" = none) (hm2 : X.mg "range" = none) (hg : Gl X "list" := by rfl) (hg2 : Gl X "range" := by rfl) (na : starEach [a, b] X.env = (false, eval a X.env) :: starEach [b] X.env := by rfl)
    (nb : starEach [b] X.env = (false, eval b X.env) :: starEach [] X.env := by rfl) (hp : (backTo pos2 (starEach [b] X.env)).any (·.1) = false := by rfl)
    (na2 : starEach [.Call (.Name "range" p2) [a, b] [] pos2] X.env = (false, eval (.Call (.Name "range" p2) [a, b] [] pos2) X.env) :: starEach [] X.env := by rfl) : PM X W (.Call (.Name "list" p) [.Call (.Name "range" p2) [a, b] [] pos2] [] pos) (E_listRg lv (A_cons f (A_cons f' A_nil))) := by
  refine ⟨(pe_listRg hc hg hm (prg_2 hg2 hm2 ha.pe hb.pe na nb hp) na2).imp fun σ H Q ⟨r, h, m, x, w⟩ => ?_⟩
  unfold E_listRg at w
  rw [bind2] at w
  refine ⟨r, h, m, x, (Wg.bind (RR0 := RRv X.K) w).imp fun v H1 ⟨r1, h1, d, hr1, p1, rd, _, w1⟩ => ⟨r1, h1, m, x.post p1 hr1, (Wg.bind (RR0 := RRv X.K) w1).imp fun u H2 ⟨r2, h2, e, hr2, p2, re, _, w2⟩ => ?_⟩⟩
  cases d with
  | int i =>
    cases e with
    | int j =>
      simp only at w2
      split at w2
      · rename_i g
        exact ⟨i, j, int_ok rd, int_ok re, rgOk_of g, alloc_lst hr2 (rng_rvs i j) w2⟩
      · exact w2.elim
    | _ => exact w2.elim
  | _ => cases e <;> exact w2.elim
theorem pm_tupRg (hc : X.calm = true) (ha : PM X W a f) (hm : X.mg "tuple" = none) (hm2 : X.mg "range" = none) (hg : Gl X "tuple" := by rfl) (hg2 : Gl X "range" := by rfl) (na : starEach [a] X.env = (false, eval a X.env) :: starEach [] X.env := by rfl)
    (na2 : starEach [.Call (.Name "range" p2) [a] [] pos2] X.env = (false, eval (.Call (.Name "range" p2) [a] [] pos2) X.env) :: starEach [] X.env := by rfl) : PM X W (.Call (.Name "tuple" p) [.Call (.Name "range" p2) [a] [] pos2] [] pos) (E_tupRg (A_cons f A_nil)) := by
  refine ⟨(pe_tupRg hc hg hm (prg_1 hg2 hm2 ha.pe na) na2).imp fun σ H Q ⟨r, h, m, x, w⟩ => ?_⟩
  unfold E_tupRg at w
  rw [bind1] at w
  refine ⟨r, h, m, x, (Wg.bind (RR0 := RRv X.K) w).imp fun v H1 ⟨r1, h1, d, hr1, p1, rd, _, w1⟩ => ?_⟩
  cases d with
  | int b =>
    simp only at w1
    split at w1
    · rename_i g
      exact ⟨b, int_ok rd, rgOk_of g, new_tup hr1 (rng_rvs 0 b) w1⟩
    · exact w1.elim
  | _ => exact w1.elim
end

/-! ### f(k = v, ..) -/
structure PMK (X : Cx) (W : Wish) (kws : List Keyword) (f : MA) : Prop where
  pk : PK X kws (tG X.K W (RRs X.K) f)
theorem _root_.L2.PK.imp {X : Cx} {e : List Keyword} {t t' : TA} (h : PK X e t) (i : ∀ σ H Q, t' σ H Q → t σ H Q) : PK X e t' := ⟨fun p pins s σ H Q I w => h.run p pins s σ H Q I (i σ H Q w)⟩
section
variable {X : Cx} {W : Wish} {k j : Nat} {x : Str} {F : Fn} {f : ME} {g : MA} {e : Expr} {kws : List Keyword} {p pos kpos : Pos} {nm : Option Str}
theorem pmk_nil : PMK X W [] A_nil := ⟨pk_nil.imp fun σ H Q ⟨r, h, m, x, w⟩ => w r H [] x.hr .refl RVs.nil⟩
theorem pmk_cons (ha : PM X W e f) (hr : PMK X W kws g) : PMK X W (⟨nm, e, kpos⟩ :: kws) (A_cons f g) := by
  refine ⟨(pk_cons ha.pe hr.pk).imp fun σ H Q ⟨r, h, m, x, w⟩ => ?_⟩
  unfold A_cons at w
  refine ⟨r, h, m, x, (Wg.bind (RR0 := RRv X.K) w).imp fun v H1 ⟨r1, h1, d, hr1, p1, rd, _, w1⟩ => ⟨r1, h1, m, x.post p1 hr1, (Wg.bind (RR0 := RRs X.K) w1).imp fun vs H2 ⟨r2, h2, ds, hr2, p2, rs, _, w2⟩ => ?_⟩⟩
  exact w2 r2 H2 _ hr2 .refl (RVs.cons (rd.post p2.p0) rs)
end
def permL {α : Type} (π : List Nat) (l : List α) : List α := π.filterMap fun i => l[i]?
def BindsK (fd : FuncData) (ks ps : List Str) (π : List Nat) : Prop := ∀ (s : Shared) (ws : List Value), ws.length = ks.length → BindsTo s fd ⟨[], ks.zip ws⟩ (ps.zip (permL π ws))
/-- a def that may be called by its name, its arguments by theirs -/
structure CalK (P : Program) (w : World) (K : PySem.W.Frag) (mg : Str → Option Value) (base : Heap) (k : Nat) (x : Str) (ks : List Str) (π : List Nat) (sp : Sp) : Prop where
  ex : ∃ (f : Addr) (fd : FuncData) (ps : List Str), FnOk P w K mg base C8.CX0 k f fd ps sp ∧ mg x = some (.ref f) ∧ PySem.W.keepIn K (.ref f) = true ∧ BindsK fd ks ps π
section
variable {P : Program} {w : World} {K : PySem.W.Frag} {mg : Str → Option Value} {base : Heap}
/-- a def, promised for every way of its calls -/
structure CalA (P : Program) (w : World) (K : PySem.W.Frag) (mg : Str → Option Value) (base : Heap) (k : Nat) (x : Str) (f : Addr) (fd : FuncData) (ps : List Str) (sp : Sp) : Prop where
  fn : FnOk P w K mg base C8.CX0 k f fd ps sp
  m : mg x = some (.ref f)
  kp : PySem.W.keepIn K (.ref f) = true
theorem CalA.cal {k : Nat} {x : Str} {f : Addr} {fd : FuncData} {ps : List Str} {sp : Sp} {ds : List Value} {dvs : List V} (c : CalA P w K mg base k x f fd ps sp) (b : Binds K fd ps ds) (d : Vals dvs ds) : C8.Cal P w K mg base k x sp dvs := ⟨f, fd, ps, ds, c.fn, c.m, c.kp, b, d⟩
theorem CalA.calK {k : Nat} {x : Str} {f : Addr} {fd : FuncData} {ps ks : List Str} {π : List Nat} {sp : Sp} (c : CalA P w K mg base k x f fd ps sp) (b : BindsK fd ks ps π) : CalK P w K mg base k x ks π sp := ⟨f, fd, ps, c.fn, c.m, c.kp, b⟩
theorem cal_fnA {x : Str} {st : Stmt} {f : Addr} {fd : FuncData} {N ps : List Str} {k p n : Nat} {body : MS} (D : C8.Def K mg x st f fd) (S : FnScope N ps (C8.fnScope st)) (hp : ps.length = p) (hn : N.length = n)
    (hb : ∀ (cdv : Value) (A : Around) (outer : List Env) (s : Shared) (H : Hp) (E : XK), Room k (A.deeper (envOfC x (C8.fnScope st) s.heap.objs.size f cdv)) → PMSs (cxOf C8.CX0 P w K mg base N x (C8.fnScope st) f cdv A outer s H E).nox W0 (C8.fnBody st) body) :
    CalA P w K mg base (k + 1) x f fd ps (spF K (mkFn p n body)) := by
  subst hn
  refine ⟨C8.fn0 D.fn S (fun vs H Q E h => ?_) (fun cdv A outer s H vs Q E hr h => ?_), D.mgf, D.kp⟩
  · obtain ⟨r, hh, ds, hr, y, w⟩ := h
    rw [← y.length, hp]
    exact (mkFn_body hr y w).1
  · obtain ⟨r, hh, ds, hr0, y, w⟩ := h
    exact ⟨_, (hb cdv A outer s H E hr).pss, (mkFn_body hr0 y w).2⟩
theorem RVs.permL {r : Rm} {h : Cells} {H : Hp} {ds : List D} {vs : List V} (y : RVs K r h H ds vs) : ∀ π : List Nat, RVs K r h H (Mi.permL π ds) (Mi.permL π vs)
  | [] => RVs.nil
  | i :: π => by
    have ih := RVs.permL y π
    unfold Mi.permL at ih ⊢
    rw [List.filterMap_cons, List.filterMap_cons]
    have l := y.length
    cases e : ds[i]? with
    | none =>
      have e2 : vs[i]? = none := List.getElem?_eq_none (by have := List.getElem?_eq_none_iff.mp e; omega)
      rw [e2]
      exact ih
    | some d =>
      obtain ⟨v, ev, rv⟩ := y.get e
      rw [ev]
      exact RVs.cons rv ih
theorem _root_.L2.Vals.permL {vs : List V} {us : List Value} (y : Vals vs us) : ∀ π : List Nat, Vals (Mi.permL π vs) (Mi.permL π us)
  | [] => .nil
  | i :: π => by
    have ih := L2.Vals.permL y π
    unfold Mi.permL at ih ⊢
    rw [List.filterMap_cons, List.filterMap_cons]
    have l := y.length
    cases e : vs[i]? with
    | none =>
      have e2 : us[i]? = none := List.getElem?_eq_none (by have := List.getElem?_eq_none_iff.mp e; omega)
      rw [e2]
      exact ih
    | some d =>
      obtain ⟨v, ev, rv⟩ := y.get e
      rw [ev]
      exact .cons rv ih
end
def E_fnK (π : List Nat) (g : List D → Cells → Res D) (f : MA) : ME := fun m h => (f m h).bind fun ds h1 => if ds.length = π.length then g (permL π ds) h1 else .stuck
def E_fnD (ex : List D) (g : List D → Cells → Res D) (f : MA) : ME := fun m h => (f m h).bind fun ds h1 => g (ds ++ ex) h1
section
variable {X : Cx} {k j : Nat} {x : Str} {F : Fn} {g : MA} {kws : List Keyword} {ks : List Str} {π : List Nat} {p pos : Pos}
/-- f(k = v, ..), all by their names -/
theorem pm_callKw (c : CalK X.prog X.w X.K X.mg X.base k x ks π (spF X.K F)) (hr : Room j X.A) (hk : k ≤ j) (ha : PMK X W0 kws g) (hl : ks.length = π.length := by rfl) (hg : Gl X x := by rfl) (hdb : (x == ("__debug__" : Str)) = false := by decide)
    (hall : (backToKw pos (keywordEach kws X.env)).all (·.1.isSome) = true := by rfl) (hks : (backToKw pos (keywordEach kws X.env)).filterMap (·.1) = ks := by rfl)
    (hpl : ((backTo pos (starEach [] X.env)).any (·.1) || (backToKw pos (keywordEach kws X.env)).any (·.1.isNone)) = false := by rfl) : PM X W0 (.Call (.Name x p) [] kws pos) (E_fnK π F g) := by
  obtain ⟨f, fd, ps, Fo, hm, kp, bk⟩ := c.ex
  refine ⟨⟨fun pins s σ H Q I h => ?_⟩⟩
  refine wpAny_Call_Name_kw (ld_glob I hg hm ?_ hdb)
  obtain ⟨r, hh, m, x, w⟩ := h
  unfold E_fnK at w
  refine PySem.W.callWith_KW0 (h₀ := X.base) I.ok.mod.kin kp hall (thn (ha.pk.run pos pins s σ H _ I ⟨r, hh, m, x, Wg.bind (RR0 := RRs X.K) w⟩) fun ws s2 ⟨zs, H2, I2, rz, r1, h1, ds, hr1, p1, rs, _, w1⟩ => ⟨I2.kIn, ?_⟩) hpl
  rw [hks]
  split at w1
  case isFalse => exact w1.elim
  rename_i len
  have hsp : spF X.K F (permL π zs) H2 Q C8.E0 := ⟨r1, h1, _, hr1, rs.permL π, w1⟩
  have hl2 : ws.length = ks.length := by rw [← rz.length, ← rs.length, len, hl]
  refine wpAny_call (codeAny_mono (Fo.run X.A X.stack s2 H2 ⟨[], ks.zip ws⟩ (permL π ws) (permL π zs) Q C8.E0 (hr.mono hk) I2.env0 (bk s2 ws hl2) (rz.permL π) hsp) fun r s' hq => ?_)
  cases r with
  | error e => exact hq.elim
  | ok fl =>
    cases fl with
    | ret u => exact I2.after hq
    | next => exact False.elim hq
    | brk => exact False.elim hq
    | cont => exact False.elim hq
/-- the last arguments left to their defaults -/
theorem pm_callD {e : Expr} {es : List Expr} {ex : List D} {dvs : List V} (c : C8.Cal X.prog X.w X.K X.mg X.base k x (spF X.K F) dvs) (hr : Room j X.A) (hk : k ≤ j) (ha : PMA X W0 (e :: es) g) (hx : ∀ r h H, RVs X.K r h H ex dvs) (hg : Gl X x := by rfl)
    (hdb : (x == ("__debug__" : Str)) = false := by decide) (he : starEach (e :: es) X.env = (false, eval e X.env) :: starEach es X.env := by rfl) (hpl : (backTo pos (starEach es X.env)).any (·.1) = false := by rfl) :
    PM X W0 (.Call (.Name x p) (e :: es) [] pos) (E_fnD ex F g) := by
  refine ⟨(C8.pe_c c hr hk hg ha.pa hdb he hpl).imp fun σ H Q ⟨r, h, m, x, w⟩ => ?_⟩
  unfold E_fnD at w
  exact ⟨r, h, m, x, (Wg.bind (RR0 := RRs X.K) w).imp fun vs H1 ⟨r1, h1, ds, hr1, p1, rs, _, w1⟩ => ⟨r1, h1, _, hr1, rs.append (hx r1 h1 H1), w1⟩⟩
end
end Mi

/-! Mi12: dicts: get, setdefault, displays, walks; index; sets. -/
namespace Mi
open PySem PySem.Spec PyProof.Rows L2

/-! ### get -/
def E_get2 (fo fa fb : ME) : ME := fun m h => (fo m h).bind fun x h1 => if (dictOf h1 x).isSome = true then (fa m h1).bind fun k h2 => (fb m h2).bind fun z h3 => match dictOf h3 x with
  | some c => (match dgetD c k with
    | some (some d) => .ok d h3
    | some none => .ok z h3
    | none => .stuck)
  | none => .stuck
  else .stuck
def E_get1 (fo fa : ME) : ME := fun m h => (fo m h).bind fun x h1 => if (dictOf h1 x).isSome = true then (fa m h1).bind fun k h2 => match dictOf h2 x with
  | some c => (match dgetD c k with
    | some (some d) => .ok d h2
    | some none => .ok .non h2
    | none => .stuck)
  | none => .stuck
  else .stuck
section
variable {X : Cx} {W : Wish} {o e f : Expr} {apos cpos : Pos} {fo fa fb : ME}
theorem isD_of {K : PySem.W.Frag} {r : Rm} {h : Cells} {H : Hp} {d : D} {v : V} (hr : HRel K r h H) (x : RV K r h H d v) (g : (dictOf h d).isSome = true) : ∃ a, v = .ref a ∧ IsD H a := by
  obtain ⟨c, ec⟩ := Option.isSome_iff_exists.mp g
  obtain ⟨a, rfl, ⟨ks, xs, vs, _, _, z, _⟩ | ⟨ks, xs, vs, _, _, z, _⟩⟩ := dictOf_ok hr x ec
  · exact ⟨a, rfl, .inl ⟨_, z⟩⟩
  · exact ⟨a, rfl, .inr ⟨_, z⟩⟩
theorem pm_get2 (hu : X.A.units + 1 < cLine) (ho : PM X W o fo) (he : PM X W e fa) (hf : PM X W f fb) (h1 : attributeBase o "get" X.env (eval o X.env) = eval o X.env := by rfl)
    (h2 : ((backTo cpos (starEach [e, f] X.env)).all (fun x => !x.1) && (backToKw cpos (keywordEach [] X.env)).all (fun x => x.1.isSome)
      && decide (([e, f] : List Expr).length + ([] : List Keyword).length + (if ([] : List Keyword).isEmpty then 0 else 1) < 30)) = true := by rfl)
    (h3 : (apos.endLine == cpos.line) = true := by rfl) (h4 : backTo cpos (starEach [e, f] X.env) = [(false, eval e X.env), (false, eval f X.env)] := by rfl) : PM X W (.Call (.Attribute o "get" apos) [e, f] [] cpos) (E_get2 fo fa fb) := by
  refine ⟨(pe_dget2 hu ho.pe he.pe hf.pe ⟨h1, h2, h3, h4⟩).imp fun σ H Q ⟨r, h, m, x, w⟩ => ?_⟩
  unfold E_get2 at w
  refine ⟨r, h, m, x, (Wg.bind (RR0 := RRv X.K) w).imp fun v H1 ⟨r1, h1, d, hr1, p1, rd, _, w1⟩ => ?_⟩
  split at w1
  case isFalse => exact w1.elim
  rename_i g
  have x1 := x.post p1 hr1
  obtain ⟨a, rfl, isd⟩ := isD_of hr1 rd g
  refine ⟨a, rfl, isd, r1, h1, m, x1, (Wg.bind (RR0 := RRv X.K) w1).imp fun kv H2 ⟨r2, h2, k, hr2, p2, rk, _, w2⟩ => ?_⟩
  refine ⟨r2, h2, m, x1.post p2 hr2, (Wg.bind (RR0 := RRv X.K) w2).imp fun zv H3 ⟨r3, h3, z, hr3, p3, rz, _, w3⟩ => ?_⟩
  have rd3 := (rd.post p2.p0).post p3.p0
  have rk3 := rk.post p3.p0
  split at w3
  · rename_i c ec
    split at w3
    · rename_i d' eg
      obtain ⟨a', e1, _, g1, _⟩ := dgetD_ok hr3 rd3 ec rk3 eg
      cases e1
      obtain ⟨v', g2, r'⟩ := g1 d' rfl
      exact ⟨_, g2, w3 r3 H3 v' hr3 .refl r'⟩
    · rename_i eg
      obtain ⟨a', e1, _, _, g1⟩ := dgetD_ok hr3 rd3 ec rk3 eg
      cases e1
      exact ⟨_, g1 rfl, w3 r3 H3 zv hr3 .refl rz⟩
    · exact w3.elim
  · exact w3.elim
theorem pm_get1 (hu : X.A.units + 1 < cLine) (ho : PM X W o fo) (he : PM X W e fa) (h1 : attributeBase o "get" X.env (eval o X.env) = eval o X.env := by rfl)
    (h2 : ((backTo cpos (starEach [e] X.env)).all (fun x => !x.1) && (backToKw cpos (keywordEach [] X.env)).all (fun x => x.1.isSome)
      && decide (([e] : List Expr).length + ([] : List Keyword).length + (if ([] : List Keyword).isEmpty then 0 else 1) < 30)) = true := by rfl)
    (h3 : (apos.endLine == cpos.line) = true := by rfl) (h4 : backTo cpos (starEach [e] X.env) = [(false, eval e X.env)] := by rfl) : PM X W (.Call (.Attribute o "get" apos) [e] [] cpos) (E_get1 fo fa) := by
  refine ⟨(pe_dget1 hu ho.pe he.pe ⟨h1, h2, h3, h4⟩).imp fun σ H Q ⟨r, h, m, x, w⟩ => ?_⟩
  unfold E_get1 at w
  refine ⟨r, h, m, x, (Wg.bind (RR0 := RRv X.K) w).imp fun v H1 ⟨r1, h1, d, hr1, p1, rd, _, w1⟩ => ?_⟩
  split at w1
  case isFalse => exact w1.elim
  rename_i g
  have x1 := x.post p1 hr1
  obtain ⟨a, rfl, isd⟩ := isD_of hr1 rd g
  refine ⟨a, rfl, isd, r1, h1, m, x1, (Wg.bind (RR0 := RRv X.K) w1).imp fun kv H2 ⟨r2, h2, k, hr2, p2, rk, _, w2⟩ => ?_⟩
  have rd2 := rd.post p2.p0
  split at w2
  · rename_i c ec
    split at w2
    · rename_i d' eg
      obtain ⟨a', e1, _, g1, _⟩ := dgetD_ok hr2 rd2 ec rk eg
      cases e1
      obtain ⟨v', g2, r'⟩ := g1 d' rfl
      exact ⟨_, g2, w2 r2 H2 v' hr2 .refl r'⟩
    · rename_i eg
      obtain ⟨a', e1, _, _, g1⟩ := dgetD_ok hr2 rd2 ec rk eg
      cases e1
      exact ⟨_, g1 rfl, w2 r2 H2 .non hr2 .refl rv_non⟩
    · exact w2.elim
  · exact w2.elim
end

/-! ### setdefault -/
section
variable {X : Cx} {pins : List (Addr × Obj)} {σ : L2.St} {H : Hp} {s : Shared} {a b : Addr} {r : Value} {d : V} {k : List Key} {A : Around} {E : Value → Shared → Prop}
theorem d_setdT {kvs : List (List Key × V)} {Q : Value → Shared → Prop} (hu : A.units + 1 < cLine) (I : Inv X pins σ H s) (e : H a = some (.dT kvs)) (eb : H b = some (.tup (k.map kV))) (rd : RelV d r) (hl : kvs.length < sizeLine)
    (h1 : ∀ v, valV kvs k = some v → ∀ (w' : Value) (s' : Shared), Inv X pins σ H s' → RelV v w' → Q w' s') (h2 : valV kvs k = none → ∀ (w' : Value) (s' : Shared), Inv X pins σ (upd H a (.dT (putK kvs k d))) s' → RelV d w' → Q w' s') :
    wpAny (model X.prog X.w) A (call (.builtin "dict.setdefault") [.ref a, .ref b, r]) Q E s := by
  obtain ⟨z, hd, xs, rel, dd⟩ := dt_of I.hok e
  have hz : xs.length ≤ sizeLine := by rw [← Paired.length rel]; exact z
  have hv := rel.val k
  refine call_setdefault_heap (knd := tupleKind (mixKind X.prog X.w)) (hsz := hz) (tupleKind_room_in1 hu) (key_of I.hok eb) hd dd (fun p hp => ?_) fun hn h' dd' hs => ?_
  · rw [hp] at hv
    cases q0 : valV kvs k with
    | none => rw [q0] at hv; exact (show False from hv).elim
    | some v0 => rw [q0] at hv; exact h1 v0 q0 _ _ (I.tok _) hv
  · rw [hn] at hv
    cases q0 : valV kvs k with
    | some v0 => rw [q0] at hv; exact (show False from hv).elim
    | none =>
      have hl2 : (putK kvs k d).length ≤ sizeLine := by
        have := length_putK kvs k d
        omega
      refine h2 q0 _ _ ?_ rd
      obtain ⟨q, es, ep, hq, g2, g3, g4, _, g5⟩ := dd'
      refine d_write I (by rw [e]; exact True.intro) hs ⟨q, hq⟩ ⟨hl2, hd, _, (rel.put k eb rd).keeps fun c ys ec => ?_, q, es, ep, hq, g2, g3, g4, g5⟩
      rw [upd_ne (ne_of ec e (fun z => nomatch z))]
      exact ec
end
/-- the heap behind d.setdefault(y, z) and what it gives -/
def rSetdA (H : Hp) (a : Addr) (y z : V) (Q : VK) : Prop :=
  (∃ (kvs : List (Key × V)) (k : Key), H a = some (.dK kvs) ∧ y = kV k ∧ kvs.length < sizeLine ∧ (∀ v, valV kvs k = some v → Q v H) ∧ (valV kvs k = none → Q z (upd H a (.dK (putK kvs k z))))) ∨
  ∃ (kvs : List (List Key × V)) (k : List Key) (b : Addr), H a = some (.dT kvs) ∧ y = .ref b ∧ H b = some (.tup (k.map kV)) ∧ kvs.length < sizeLine ∧ (∀ v, valV kvs k = some v → Q v H) ∧ (valV kvs k = none → Q z (upd H a (.dT (putK kvs k z))))
def tSetdA (td ty tx : TE) : TE := fun σ H Q => td σ H fun x H1 => ∃ a, x = .ref a ∧ IsD H1 a ∧ ty σ H1 fun y H2 => tx σ H2 fun z H3 => rSetdA H3 a y z Q
theorem pe_setdA {X : Cx} {o e f : Expr} {td ty tx : TE} {apos cpos : Pos} (hu : X.A.units + 1 < cLine) (ho : PE X o td) (he : PE X e ty) (hf : PE X f tx) (m : M2 X o "setdefault" apos e f cpos) : PE X (.Call (.Attribute o "setdefault" apos) [e, f] [] cpos) (tSetdA td ty tx) := by
  refine ⟨fun pins s σ H Q I h => ?_⟩
  refine wpAny_Call_method m.base m.few m.line PySem.F.plainAttrs_dict PySem.F.slot_dict_setdefault PySem.F.type_dict_setdefault (thn (ho.run pins s σ H _ I h) fun u s1 ⟨x, H1, I1, rx, a, ex, d, q1⟩ => ?_)
  subst ex
  obtain rfl : u = Value.ref a := rx
  obtain ⟨t1, t2, _⟩ := isD_at I1 d
  refine ⟨t1, t2, ?_⟩
  rw [m.trees]
  refine Calls.callWith_builtin rfl (Calls.evalArgs_plain (Calls.spliced_cons (thn (he.run pins s1 σ H1 _ I1 q1) fun iv s2 ⟨y, H2, I2, ry, q2⟩ =>
    Calls.spliced_cons (thn (hf.run pins s2 σ H2 _ I2 q2) fun fv s3 ⟨z, H3, I3, rz, q3⟩ => Calls.spliced_nil ?_))))
  rcases q3 with ⟨kvs, k, ea, ey, hl, q4, q5⟩ | ⟨kvs, k, b, ea, ey, eb, hl, q4, q5⟩
  · subst ey
    exact d_setd I3 ea ry rz hl (fun v hv w' s4 I4 rw' => ⟨v, _, I4, rw', q4 v hv⟩) fun hn w' s4 I4 rw' => ⟨z, _, I4, rw', q5 hn⟩
  · subst ey
    cases (show iv = Value.ref b from ry)
    exact d_setdT hu I3 ea eb rz hl (fun v hv w' s4 I4 rw' => ⟨v, _, I4, rw', q4 v hv⟩) fun hn w' s4 I4 rw' => ⟨z, _, I4, rw', q5 hn⟩
def setdD (base : Nat) (x k z : D) (h : Cells) : Res D := match x with
  | .ref n => (match h[n]? with
    | some (true, .dK ks xs) => (match keyOf k with
      | some j => (match lookD ks xs j with
        | some d => if ks.length < big then .ok d h else .stuck
        | none => if ks.length < big ∧ okW base n z = true then .ok z (h.set n (true, .dK (putD ks xs j z).1 (putD ks xs j z).2)) else .stuck)
      | none => .stuck)
    | some (true, .dT ks xs) => (match k with
      | .tup ts => (match keysOf ts with
        | some j => (match lookD ks xs j with
          | some d => if ks.length < big then .ok d h else .stuck
          | none => if ks.length < big ∧ okW base n z = true then .ok z (h.set n (true, .dT (putD ks xs j z).1 (putD ks xs j z).2)) else .stuck)
        | none => .stuck)
      | _ => .stuck)
    | _ => .stuck)
  | _ => .stuck
def E_setd (fo fa fb : ME) : ME := fun m h => (fo m h).bind fun x h1 => if (dictOf h1 x).isSome = true then (fa m h1).bind fun k h2 => (fb m h2).bind fun z h3 => setdD m.base x k z h3 else .stuck
section
variable {K : PySem.W.Frag} {W : Wish} {r : Rm} {h : Cells} {H : Hp} {m : Loc} {σ : L2.St}
theorem refs_put {κ : Type} [DecidableEq κ] {q : Nat} {ks : List κ} {xs : List D} {j : κ} {d : D} (h1 : refsLts q xs = true) (h2 : refsLt q d = true) : refsLts q (putD ks xs j d).2 = true := by
  rw [refsLts_mem] at h1 ⊢
  intro z hz
  rcases putD_mem hz with hz | hz
  · rw [hz]; exact h2
  · exact h1 z hz
theorem setdD_ok (x : Rel K r h H m σ) {o i d : D} {a : Addr} {iv v : V} {Q : VK} (ro : RV K r h H o (.ref a)) (ri : RV K r h H i iv) (rd : RV K r h H d v) (w : Wg K W (RRv K) (setdD m.base o i d h) r h H Q) : rSetdA H a iv v Q := by
  unfold setdD at w
  split at w
  case h_2 => exact w.elim
  rename_i n
  split at w
  · rename_i ks xs en
    split at w
    case h_2 => exact w.elim
    rename_i k ek
    obtain ⟨a', ws, e0, ea, l, e2, y⟩ := live_dK x.hr ro en
    cases e0
    have e3 := keyOf_ok ri ek
    have lz : ks.length < big → (ks.zip ws).length < sizeLine := fun g => by
      rw [List.length_zip, ← y.length, ← l, Nat.min_self]; exact Nat.lt_trans g big_line
    have look := lookD_ok k l y
    split at w
    · rename_i d' el
      split at w
      · rename_i g
        obtain ⟨v', ev, rv'⟩ := look.1 d' el
        refine .inl ⟨_, k, e2, e3, lz g, fun v0 hv => ?_, fun hn => by rw [hn] at ev; cases ev⟩
        rw [ev] at hv; cases hv
        exact w r H v' x.hr .refl rv'
      · exact w.elim
    · rename_i el
      split at w
      · rename_i g
        have hn := look.2 el
        refine .inl ⟨_, k, e2, e3, lz g.1, fun v0 hv => (by rw [hn] at hv; cases hv), fun _ => ?_⟩
        obtain ⟨us, e4, y2, l2⟩ := putD_ok (K := K) k rd l y
        rw [e4]
        have p := Post.write x.hr en ea (d' := .dK (putD ks xs k d).1 (putD ks xs k d).2) (o := .dK ((putD ks xs k d).1.zip us))
        refine wr_d (RR := RRv K) (W := W) (c' := .dK (putD ks xs k d).1 (putD ks xs k d).2) stb_v x.hr en ea (fun q hq hl => ?_) ⟨us, fun _ => upd_same, l2, .inl upd_same, y2.post p.p0⟩ (rd.post (Post0.refl)) w
        have h1 := (x.hr.cell n _ _ en).1 q hq hl
        rw [refsLt_dK] at h1 ⊢
        exact refs_put h1 (okW_ok x g.2 q hq hl)
      · exact w.elim
  · rename_i ks xs en
    split at w
    case h_2 => exact w.elim
    rename_i ts
    split at w
    case h_2 => exact w.elim
    rename_i k ek
    obtain ⟨a', ws, e0, ea, l, e2, y⟩ := live_dT x.hr ro en
    cases e0
    obtain ⟨b, us0, rfl, eb, yt⟩ := tup_ok ri
    have e3 := keysOf_ok yt ek
    have lz : ks.length < big → (ks.zip ws).length < sizeLine := fun g => by
      rw [List.length_zip, ← y.length, ← l, Nat.min_self]; exact Nat.lt_trans g big_line
    have look := lookD_ok k l y
    split at w
    · rename_i d' el
      split at w
      · rename_i g
        obtain ⟨v', ev, rv'⟩ := look.1 d' el
        refine .inr ⟨_, k, b, e2, rfl, by rw [eb, e3], lz g, fun v0 hv => ?_, fun hn => by rw [hn] at ev; cases ev⟩
        rw [ev] at hv; cases hv
        exact w r H v' x.hr .refl rv'
      · exact w.elim
    · rename_i el
      split at w
      · rename_i g
        have hn := look.2 el
        refine .inr ⟨_, k, b, e2, rfl, by rw [eb, e3], lz g.1, fun v0 hv => (by rw [hn] at hv; cases hv), fun _ => ?_⟩
        obtain ⟨us, e4, y2, l2⟩ := putD_ok (K := K) k rd l y
        rw [e4]
        have p := Post.write x.hr en ea (d' := .dT (putD ks xs k d).1 (putD ks xs k d).2) (o := .dT ((putD ks xs k d).1.zip us))
        refine wr_d (RR := RRv K) (W := W) (c' := .dT (putD ks xs k d).1 (putD ks xs k d).2) stb_v x.hr en ea (fun q hq hl => ?_) ⟨us, fun _ => upd_same, l2, .inl upd_same, y2.post p.p0⟩ (rd.post (Post0.refl)) w
        have h1 := (x.hr.cell n _ _ en).1 q hq hl
        rw [refsLt_dT] at h1 ⊢
        exact refs_put h1 (okW_ok x g.2 q hq hl)
      · exact w.elim
  · exact w.elim
end
theorem pm_setd {X : Cx} {W : Wish} {o e f : Expr} {apos cpos : Pos} {fo fa fb : ME} (hu : X.A.units + 1 < cLine) (ho : PM X W o fo) (he : PM X W e fa) (hf : PM X W f fb) (h1 : attributeBase o "setdefault" X.env (eval o X.env) = eval o X.env := by rfl)
    (h2 : ((backTo cpos (starEach [e, f] X.env)).all (fun x => !x.1) && (backToKw cpos (keywordEach [] X.env)).all (fun x => x.1.isSome)
      && decide (([e, f] : List Expr).length + ([] : List Keyword).length + (if ([] : List Keyword).isEmpty then 0 else 1) < 30)) = true := by rfl)
    (h3 : (apos.endLine == cpos.line) = true := by rfl) (h4 : backTo cpos (starEach [e, f] X.env) = [(false, eval e X.env), (false, eval f X.env)] := by rfl) : PM X W (.Call (.Attribute o "setdefault" apos) [e, f] [] cpos) (E_setd fo fa fb) := by
  refine ⟨(pe_setdA hu ho.pe he.pe hf.pe ⟨h1, h2, h3, h4⟩).imp fun σ H Q ⟨r, h, m, x, w⟩ => ?_⟩
  unfold E_setd at w
  refine ⟨r, h, m, x, (Wg.bind (RR0 := RRv X.K) w).imp fun v H1 ⟨r1, h1, d, hr1, p1, rd, _, w1⟩ => ?_⟩
  split at w1
  case isFalse => exact w1.elim
  rename_i g
  have x1 := x.post p1 hr1
  obtain ⟨a, rfl, isd⟩ := isD_of hr1 rd g
  refine ⟨a, rfl, isd, r1, h1, m, x1, (Wg.bind (RR0 := RRv X.K) w1).imp fun kv H2 ⟨r2, h2, k, hr2, p2, rk, _, w2⟩ => ?_⟩
  have x2 := x1.post p2 hr2
  refine ⟨r2, h2, m, x2, (Wg.bind (RR0 := RRv X.K) w2).imp fun zv H3 ⟨r3, h3, z, hr3, p3, rz, _, w3⟩ => ?_⟩
  exact setdD_ok (x2.post p3 hr3) ((rd.post p2.p0).post p3.p0) (rk.post p3.p0) rz w3

/-! ### dicts walked: locked for good -/
/-- the value's dict gets locked -/
def tLk (te : TE) : TE := fun σ H Q => te σ H fun x H1 => ∃ a u, x = .ref a ∧ H1 a = some u ∧ ((∃ o kvs, u = .frz o (.dK kvs) ∧ Q x H1) ∨ (∃ o kvs, u = .frz o (.dT kvs) ∧ Q x H1) ∨ (((∃ kvs, u = .dK kvs) ∨ ∃ kvs, u = .dT kvs) ∧ ∀ od, Q x (upd H1 a (.frz od u))))
theorem pe_lk {X : Cx} {e : Expr} {te : TE} (he : PE X e te) : PE X e (tLk te) := by
  refine ⟨fun pins s σ H Q I h => thn (he.run pins s σ H _ I h) fun v s1 ⟨x, H1, I1, rx, a, u, ex, ea, q⟩ => ?_⟩
  rcases q with ⟨o, kvs, eu, q⟩ | ⟨o, kvs, eu, q⟩ | ⟨hu, q⟩
  · exact ⟨x, H1, I1, rx, q⟩
  · exact ⟨x, H1, I1, rx, q⟩
  · obtain ⟨od, I2⟩ := I1.lock ea (by rcases hu with ⟨_, rfl⟩ | ⟨_, rfl⟩ <;> exact True.intro)
    exact ⟨x, _, I2, rx, q od⟩
section
variable {K : PySem.W.Frag} {W : Wish} {r : Rm} {h : Cells} {H : Hp}
/-- a frozen dict of tuple keys, locked -/
theorem lk_dT {ks : List (List Key)} {xs : List D} {v : V} {Q : VK} (hr : HRel K r h H) (rv : RV K r h H (.dT ks xs) v)
    (w : ∀ (H' : Hp) (a : Addr) (o : Obj) (vs : List V), HRel K r h H' → Post r h H r h H' → v = .ref a → ks.length = xs.length → H' a = some (.frz o (.dT (ks.zip vs))) → ¬ LiveA r h a → RVs K r h H' xs vs → Q v H') :
    ∃ a u, v = .ref a ∧ H a = some u ∧ ((∃ o kvs, u = .frz o (.dK kvs) ∧ Q v H) ∨ (∃ o kvs, u = .frz o (.dT kvs) ∧ Q v H) ∨ (((∃ kvs, u = .dK kvs) ∨ ∃ kvs, u = .dT kvs) ∧ ∀ od, Q v (upd H a (.frz od u)))) := by
  simp only [RV] at rv
  obtain ⟨a, vs, rfl, nl, l, z, y⟩ := rv
  rcases z with z | ⟨o, z⟩
  · refine ⟨a, _, rfl, z, .inr (.inr ⟨.inr ⟨_, rfl⟩, fun od => ?_⟩)⟩
    have p := Post.lock (od := od) hr z (.inr ⟨_, rfl⟩) nl
    exact w _ a od vs (hr.lock z (.inr ⟨_, rfl⟩) nl) p rfl l upd_same nl (y.post p.p0)
  · exact ⟨a, _, rfl, z, .inr (.inl ⟨o, _, rfl, w H a o vs hr .refl rfl l z nl y⟩)⟩
theorem lk_dK {ks : List Key} {xs : List D} {v : V} {Q : VK} (hr : HRel K r h H) (rv : RV K r h H (.dK ks xs) v)
    (w : ∀ (H' : Hp) (a : Addr) (o : Obj) (vs : List V), HRel K r h H' → Post r h H r h H' → v = .ref a → ks.length = xs.length → H' a = some (.frz o (.dK (ks.zip vs))) → ¬ LiveA r h a → RVs K r h H' xs vs → Q v H') :
    ∃ a u, v = .ref a ∧ H a = some u ∧ ((∃ o kvs, u = .frz o (.dK kvs) ∧ Q v H) ∨ (∃ o kvs, u = .frz o (.dT kvs) ∧ Q v H) ∨ (((∃ kvs, u = .dK kvs) ∨ ∃ kvs, u = .dT kvs) ∧ ∀ od, Q v (upd H a (.frz od u)))) := by
  simp only [RV] at rv
  obtain ⟨a, vs, rfl, nl, l, z, y⟩ := rv
  rcases z with z | ⟨o, z⟩
  · refine ⟨a, _, rfl, z, .inr (.inr ⟨.inl ⟨_, rfl⟩, fun od => ?_⟩)⟩
    have p := Post.lock (od := od) hr z (.inl ⟨_, rfl⟩) nl
    exact w _ a od vs (hr.lock z (.inl ⟨_, rfl⟩) nl) p rfl l upd_same nl (y.post p.p0)
  · exact ⟨a, _, rfl, z, .inl ⟨o, _, rfl, w H a o vs hr .refl rfl l z nl y⟩⟩
end

/-! ### d.values() -/
def VsOf (u : HO) (vs : List V) : Prop := (∃ kvs : List (Key × V), u = .dK kvs ∧ vs = kvs.map Prod.snd) ∨ ∃ kvs : List (List Key × V), u = .dT kvs ∧ vs = kvs.map Prod.snd
section
variable {X : Cx} {pins : List (Addr × Obj)} {σ : L2.St} {H : Hp} {s : Shared} {d : Addr} {o : Obj} {u : HO} {vs : List V}
theorem frz_vals (I : Inv X pins σ H s) (h : H d = some (.frz o u)) (hv : VsOf u vs) : (d == sysModules) = false ∧ s.heap.get? d = some o ∧ o.ExactDict ∧ ∃ (es : Array DictEntry) (ep : Nat), o.data = .dict es ep ∧ es.size = vs.length ∧
    ∀ (i : Nat) (v : V), vs[i]? = some v → ∃ en : DictEntry, es[i]? = some en ∧ RelV v en.val := by
  rcases hv with ⟨kvs, rfl, rfl⟩ | ⟨kvs, rfl, rfl⟩
  · obtain ⟨hs, hgd, hx, es, ep, us, hdt, hsz, kv, hm⟩ := I.frzK h
    refine ⟨hs, hgd, hx, es, ep, hdt, by rw [List.length_map]; exact hsz, fun i v e => ?_⟩
    rw [List.getElem?_map] at e
    cases ek : kvs[i]? with
    | none => rw [ek] at e; cases e
    | some p =>
      rw [ek] at e
      cases e
      obtain ⟨⟨k', u'⟩, hb, rk⟩ := paired_get kv ek
      obtain ⟨es', ep', hr, hs', he⟩ := PySem.Heap.DictOf.raw hm.dictOf
      obtain ⟨o', ho', _, hd'⟩ := hr
      rw [hgd] at ho'
      cases ho'
      obtain ⟨rfl, rfl⟩ := dict_ep hdt hd'
      have hi : i < es'.size := by
        rw [hsz]
        exact (List.getElem?_eq_some_iff.mp ek).1
      obtain ⟨_, h2⟩ := he i hi k' u' hb
      exact ⟨es'[i], Array.getElem?_eq_getElem hi, by rw [h2]; exact rk.2⟩
  · obtain ⟨hd, z, hs, xs, pr, o', es, ep, ho, hx, hdt, he, _⟩ := I.hok d _ h
    rw [hd] at ho
    cases ho
    have l1 : es.size = xs.length := size_of_entries he
    have l2 : kvs.length = xs.length := Paired.length pr
    refine ⟨hs, hd, hx, es, ep, hdt, by rw [List.length_map]; omega, fun i v e => ?_⟩
    rw [List.getElem?_map] at e
    cases ek : kvs[i]? with
    | none => rw [ek] at e; cases e
    | some p =>
      rw [ek] at e
      cases e
      obtain ⟨b, hb, e1, e2, e3⟩ := paired_get pr ek
      have q := entry_at he i
      rw [hb] at q
      exact ⟨_, q, e3⟩
end
def ItV (d : Addr) (o : Obj) (u : HO) (vs : List V) : It :=
  ⟨fun i H => H d = some (.frz o u) ∧ i < vs.length, fun i H x H' => H' = H ∧ vs[i]? = some x, fun i H => H d = some (.frz o u) ∧ vs.length ≤ i⟩
theorem turn_V {P : Program} {w : World} {K : PySem.W.Frag} {tg : Expr} {d : Addr} {o : Obj} {es : Array DictEntry} {ep : Nat} {u : HO} {vs : List V} (it : Addr) (hod : o.data = .dict es ep) (hv : VsOf u vs) : Turn P w K tg (ItV d o u vs) [it] it (fun i h => h.IsValIter it d i vs.length ep) where
  mem := by simp
  obj := fun i h st b hb => by
    have e : b = it := by simpa using hb
    subst e
    obtain ⟨oi, e, c, dd⟩ := st
    exact ⟨oi, e, fun v z => by rw [dd] at z; cases z⟩
  keep := fun i h h' st k => st.at fun oi e => k it (by simp) oi e
  item := by
    intro X hP hw hK hc i pins s σ H E I hf st hg
    subst hP hw hK
    obtain ⟨hd, hi⟩ := hg
    obtain ⟨f0, f1, f2, f3, f4, f5⟩ := hf it (by simp)
    obtain ⟨hs, hgd, hx, es', ep', hdt, hsz, ent⟩ := frz_vals I hd hv
    obtain ⟨rfl, rfl⟩ := dict_ep hod hdt
    obtain ⟨v, hvi⟩ : ∃ v, vs[i]? = some v := ⟨vs[i], List.getElem?_eq_getElem hi⟩
    obtain ⟨en, hen, rv⟩ := ent i v hvi
    have hi2 : i < es'.size := by omega
    rw [← hsz] at st
    refine wpAny_pyNext_values_item_raw st ⟨o, hgd, hx, hdt⟩ hi2 fun h' st' sb => ?_
    have I1 : Inv X pins σ H { s with heap := h' } := I.turned (t' := s.toks) (fun b ob hb e => (sb.2 b hb).trans e) f0 f1 f3 f4 f5
    obtain ⟨oi, e, c, dd⟩ := id st'
    have ev : es'[i].val = en.val := by rw [Array.getElem?_eq_getElem hi2] at hen; cases hen; rfl
    refine ⟨_, rfl, go_of (s := { s with heap := h' }) e c dd (by decide) ⟨v, H, I1, by rw [ev]; exact rv, ⟨rfl, hvi⟩, ?_, fun b hb => (hf b hb).1⟩⟩
    show h'.IsValIter it d (i + 1) vs.length _
    rw [← hsz]
    exact st'
  done := by
    intro X hP hw hK hc i pins s σ H E I hf st hg
    subst hP hw hK
    obtain ⟨hd, hi⟩ := hg
    obtain ⟨f0, f1, f2, f3, f4, f5⟩ := hf it (by simp)
    obtain ⟨hs, hgd, hx, es', ep', hdt, hsz, ent⟩ := frz_vals I hd hv
    obtain ⟨rfl, rfl⟩ := dict_ep hod hdt
    rw [← hsz] at st
    exact wpAny_pyNext_values_end_raw (I.ok.hd hc) st ⟨o, hgd, hx, hdt⟩ (by omega) fun h' eb => ⟨rfl, I.turned (t' := s.toks) (fun b ob hb e => eb b ob hb e) f0 f1 f3 f4 f5⟩
  self := fun A i s Q E st h => wpAny_pyIter_valiter st h
section
variable {X : Cx} {W : Wish} {tg e : Expr} {td : TE} {f : ME} {apos cpos : Pos}
def iV (td : TE) : TI := fun σ H R => td σ H fun x H1 => ∃ d o u vs, x = .ref d ∧ H1 d = some (.frz o u) ∧ VsOf u vs ∧ R (ItV d o u vs) H1
theorem pi_V (he : PE X e td) (hbase : attributeBase e "values" X.env (eval e X.env) = eval e X.env := by rfl) (hline : (apos.endLine == cpos.line) = true := by rfl) : PI X tg (.Call (.Attribute e "values" apos) [] [] cpos) (iV td) := by
  refine ⟨fun pins s σ H R I h => ?_⟩
  refine wpAny_Call_method (T := "dict") (id := "dict.values") hbase rfl hline PySem.F.plainAttrs_dict PySem.F.slot_dict_values PySem.F.type_dict_values (thn (he.run pins s σ H _ I h) fun u s1 ⟨x, H1, I1, rx, d, o, ob, vs, ex, hd, hv, q⟩ => ?_)
  subst ex
  obtain rfl : u = Value.ref d := rx
  obtain ⟨hs, hgd, hx, es, ep, hdt, hsz, ent⟩ := frz_vals I1 hd hv
  have raw : s1.heap.DictRaw d es ep := ⟨o, hgd, hx, hdt⟩
  refine ⟨raw.typeIs, fun b e => by cases e; exact ⟨o, hgd, hx.2.1⟩, ?_⟩
  have I2 : Inv X pins σ H1 { s1 with heap := s1.heap.push { cls := .type "dict_values", data := .fields #[.ref d] } } := I1.kept (t' := s1.toks) fun b ob q => Heap.get?_push_of_some _ q
  have fin : wpAny (model X.prog X.w) X.A (pyIter (.ref s1.heap.objs.size)) (PIE X pins σ tg R) X.xe { s1 with heap := s1.heap.push { cls := .type "dict_values", data := .fields #[.ref d] } } := by
    refine wpAny_pyIter_values_raw (d := d) ⟨_, Heap.get?_push_size _ rfl, rfl, rfl⟩ (raw.push _) (pi_one (tk := s1.toks) I2 _ (turn_V _ hdt hv) ⟨_, Heap.get?_push_size _ rfl, rfl, ?_⟩ q)
    rw [hsz] <;> rfl
  show wpAny _ _ (callWith cpos (.builtin "dict.values") [.ref d] [] []) _ X.xe s1
  exact method_meetsIn PySem.F.slot_dict_values PySem.F.entry_dict_values rfl (PySem.evalArgs_none ⟨rfl, raw.typeIs, PySem.F.args_dict_values_1 _, _, meets_dict_values_raw d hs, ⟨es, ep, raw⟩, fin⟩)
end
def keyD : Key → D
  | .inl i => .int i
  | .inr x => .str x
def I_vals (f : ME) : MI := fun m h => (f m h).bind fun d h1 => match d with | .dK _ xs => .ok xs h1 | .dT _ xs => .ok xs h1 | _ => .stuck
def I_keys (f : ME) : MI := fun m h => (f m h).bind fun d h1 => match d with | .dK ks _ => .ok (ks.map keyD) h1 | .dT ks _ => .ok (ks.map fun k => .tup (k.map keyD)) h1 | _ => .stuck
section
variable {K : PySem.W.Frag} {W : Wish} {r : Rm} {h : Cells} {H : Hp}
theorem rv_key (k : Key) : RV K r h H (keyD k) (kV k) := by cases k <;> simp only [keyD, RV, kV]
theorem rv_keys : ∀ ks : List Key, RVs K r h H (ks.map keyD) (ks.map kV)
  | [] => RVs.nil
  | k :: ks => RVs.cons (rv_key k) (rv_keys ks)
theorem zip_snds {κ : Type} : ∀ {ks : List κ} {vs : List V}, ks.length = vs.length → (ks.zip vs).map Prod.snd = vs
  | [], [], _ => rfl
  | [], _ :: _, h => by simp at h
  | _ :: _, [], h => by simp at h
  | k :: ks, v :: vs, h => by simp [zip_snds (ks := ks) (vs := vs) (by simpa using h)]
theorem rri_V {xs : List D} {vs : List V} {a : Addr} {o : Obj} {u : HO} (z : H a = some (.frz o u)) (nl : ¬ LiveA r h a) (y : RVs K r h H xs vs) : RRi K r h H xs (ItV a o u vs) := by
  intro r' h' H' p hr
  have l := y.length
  have z' := (p.kF a o u z nl).1
  refine ⟨fun i hi => ⟨⟨z', by omega⟩, fun x H2 yl => ?_⟩, ⟨z', by omega⟩⟩
  obtain ⟨e, ex⟩ := yl
  subst e
  obtain ⟨d, ed, rd⟩ := (y.post p).rget ex
  exact ⟨hr, .refl, d, ed, rd⟩
theorem zip_get {κ : Type} {ks : List κ} {vs : List V} {i : Nat} {k : κ} {v : V} (e : (ks.zip vs)[i]? = some (k, v)) : ks[i]? = some k := (List.getElem?_zip_eq_some.mp e).1
theorem rri_kT {ks : List (List Key)} {xs : List D} {vs : List V} {a : Addr} {o : Obj} (z : H a = some (.frz o (.dT (ks.zip vs)))) (nl : ¬ LiveA r h a) (l : ks.length = xs.length) (y : RVs K r h H xs vs) : RRi K r h H (ks.map fun k => .tup (k.map keyD)) (Itkt a o (ks.zip vs)) := by
  intro r' h' H' p hr
  have l2 := y.length
  have lz : (ks.zip vs).length = ks.length := by rw [List.length_zip]; omega
  have z' := (p.kF a o _ z nl).1
  refine ⟨fun i hi => ⟨⟨z', by rw [List.length_map] at hi; omega⟩, fun x H2 yl => ?_⟩, ⟨z', by rw [List.length_map]; omega⟩⟩
  obtain ⟨e, k, v, q, ek, ex, eq⟩ := yl
  subst e; subst ex
  refine ⟨hr, .refl, .tup (k.map keyD), by rw [List.getElem?_map, zip_get ek]; rfl, ?_⟩
  simp only [RV]
  exact ⟨q, _, rfl, eq, rv_keys k⟩
theorem rri_kK {ks : List Key} {xs : List D} {vs : List V} {a : Addr} {o : Obj} (z : H a = some (.frz o (.dK (ks.zip vs)))) (nl : ¬ LiveA r h a) (l : ks.length = xs.length) (y : RVs K r h H xs vs) : RRi K r h H (ks.map keyD) (Itk a o (ks.zip vs)) := by
  intro r' h' H' p hr
  have l2 := y.length
  have lz : (ks.zip vs).length = ks.length := by rw [List.length_zip]; omega
  have z' := (p.kF a o _ z nl).1
  refine ⟨fun i hi => ⟨⟨z', by rw [List.length_map] at hi; omega⟩, fun x H2 yl => ?_⟩, ⟨z', by rw [List.length_map]; omega⟩⟩
  obtain ⟨e, k, v, ek, ex⟩ := yl
  subst e; subst ex
  exact ⟨hr, .refl, keyD k, by rw [List.getElem?_map, zip_get ek]; rfl, rv_key k⟩
end
section
variable {X : Cx} {W : Wish} {tg e : Expr} {f : ME} {apos cpos : Pos}
theorem pmi_vals (he : PM X W e f) (hbase : attributeBase e "values" X.env (eval e X.env) = eval e X.env := by rfl) (hline : (apos.endLine == cpos.line) = true := by rfl) : PMI X W tg (.Call (.Attribute e "values" apos) [] [] cpos) (I_vals f) := by
  refine ⟨(pi_V (pe_lk he.pe) hbase hline).imp fun σ H R ⟨r, h, m, x, w⟩ => ?_⟩
  unfold I_vals at w
  refine ⟨r, h, m, x, (Wg.bind (RR0 := RRv X.K) w).imp fun v H1 ⟨r1, h1, d, hr1, p1, rd, _, w1⟩ => ?_⟩
  split at w1
  · refine lk_dK (Q := fun x H1 => ∃ d o u vs, x = V.ref d ∧ H1 d = some (.frz o u) ∧ VsOf u vs ∧ R (ItV d o u vs) H1) hr1 rd fun H' a o vs hr p e l z nl y => ?_
    exact ⟨a, o, _, vs, e, z, .inl ⟨_, rfl, (zip_snds (by rw [l]; exact y.length)).symm⟩, w1 r1 H' _ hr p (rri_V z nl y)⟩
  · refine lk_dT (Q := fun x H1 => ∃ d o u vs, x = V.ref d ∧ H1 d = some (.frz o u) ∧ VsOf u vs ∧ R (ItV d o u vs) H1) hr1 rd fun H' a o vs hr p e l z nl y => ?_
    exact ⟨a, o, _, vs, e, z, .inr ⟨_, rfl, (zip_snds (by rw [l]; exact y.length)).symm⟩, w1 r1 H' _ hr p (rri_V z nl y)⟩
  · exact w1.elim
theorem pmi_keys (he : PM X W e f) : PMI X W tg e (I_keys f) := by
  refine ⟨(pi_keys (pe_lk he.pe)).imp fun σ H R ⟨r, h, m, x, w⟩ => ?_⟩
  unfold I_keys at w
  refine ⟨r, h, m, x, (Wg.bind (RR0 := RRv X.K) w).imp fun v H1 ⟨r1, h1, d, hr1, p1, rd, _, w1⟩ => ?_⟩
  split at w1
  · refine lk_dK (Q := fun x H1 => ∃ d o, x = V.ref d ∧ ((∃ kvs, H1 d = some (.frz o (.dK kvs)) ∧ R (Itk d o kvs) H1) ∨ ∃ kvs, H1 d = some (.frz o (.dT kvs)) ∧ R (Itkt d o kvs) H1)) hr1 rd fun H' a o vs hr p e l z nl y => ?_
    exact ⟨a, o, e, .inl ⟨_, z, w1 r1 H' _ hr p (rri_kK z nl l y)⟩⟩
  · refine lk_dT (Q := fun x H1 => ∃ d o, x = V.ref d ∧ ((∃ kvs, H1 d = some (.frz o (.dK kvs)) ∧ R (Itk d o kvs) H1) ∨ ∃ kvs, H1 d = some (.frz o (.dT kvs)) ∧ R (Itkt d o kvs) H1)) hr1 rd fun H' a o vs hr p e l z nl y => ?_
    exact ⟨a, o, e, .inr ⟨_, z, w1 r1 H' _ hr p (rri_kT z nl l y)⟩⟩
  · exact w1.elim
end
end Mi

/-! Mi13: dict(pairs), dict displays, list(d.values()), index, sets. -/
namespace Mi
open PySem PySem.Spec PyProof.Rows L2

/-! ### dict(list of pairs), tuple keys -/
def mergeA {κ : Type} [DecidableEq κ] (kvs more : List (κ × V)) : List (κ × V) := more.foldl (fun acc kv => putK acc kv.1 kv.2) kvs
theorem mergeA_new {κ : Type} [DecidableEq κ] : ∀ (more kvs : List (κ × V)), (kvs.map Prod.fst ++ more.map Prod.fst).Nodup → mergeA kvs more = kvs ++ more
  | [], kvs, _ => by simp [mergeA]
  | p :: more, kvs, h => by
    have hn : (kvs.any fun kv => decide (kv.1 = p.1)) = false := by
      rw [List.any_eq_false]
      intro q hq
      simp only [decide_eq_true_eq]
      intro e
      have := (List.nodup_append.mp h).2.2 q.1 (List.mem_map_of_mem hq) p.1 (by simp)
      exact this e
    have e : putK kvs p.1 p.2 = kvs ++ [p] := by
      unfold putK
      rw [hn]
      rfl
    show mergeA (putK kvs p.1 p.2) more = _
    rw [e, mergeA_new more (kvs ++ [p]) (by simpa [List.append_assoc] using h), List.append_assoc]
    rfl
theorem mergeA_K (kvs more : List (Key × V)) : mergeK kvs more = mergeA kvs more := rfl
section
variable {X : Cx}
theorem kt_all {H : Hp} : ∀ {more : List (List Key × V)} {rs : List (List Key × Addr × Value)} {kvs : List (List Key × V)} {xs : List (List Key × Addr × Value)}, KT H more rs → KT H kvs xs → KT H (mergeA kvs more) (storedAllH xs rs)
  | _, _, kvs, xs, .nil, k => k
  | _, _, kvs, xs, .cons (a := p) (b := q) h t, k => by
    have e := k.put p.1 (b := q.2.1) (y := p.2) (u := q.2.2) h.2.1 h.2.2
    rw [h.1] at e
    have z := kt_all t e
    show KT H (mergeA (putK kvs p.1 p.2) _) (storedAllH (storedH xs q.1 q.2.1 q.2.2) _)
    rw [h.1]
    exact z
def PrT (K : PySem.W.Frag) (H : Hp) (p : Addr) (kv : List Key × V) : Prop := ∃ q, SqT K H p [.ref q, kv.2] ∧ H q = some (.tup (kv.1.map kV))
theorem pairs_T {pins : List (Addr × Obj)} {σ : L2.St} {H : Hp} {s : Shared} (I : Inv X pins σ H s) : ∀ {ps : List Addr} {kvs : List (List Key × V)}, Paired (PrT X.K H) ps kvs →
    ∃ rs : List (List Key × Addr × Value), KT H kvs rs ∧ rs.length = ps.length ∧ ∀ (j : Nat) (q : List Key × Addr × Value), rs[j]? = some q → ∃ b : Addr, ps[j]? = some b ∧ IsTup s.heap b #[.ref q.2.1, q.2.2] ∧ H q.2.1 = some (.tup (q.1.map kV))
  | _, _, .nil => ⟨[], .nil, rfl, fun j q e => by simp at e⟩
  | _, _, .cons (a := p) (b := kv) h t => by
    obtain ⟨rs, r, hl, hp⟩ := pairs_T I t
    obtain ⟨q, hq, eq⟩ := h
    obtain ⟨its, rv, ht, _⟩ := I.tuple hq
    obtain ⟨u, y, ei, ru, ry⟩ := vals2 rv
    subst ei
    cases (show u = Value.ref q from ru)
    refine ⟨(kv.1, q, y) :: rs, .cons ⟨rfl, eq, ry⟩ r, by simp [hl], fun j z e => ?_⟩
    cases j with
    | zero =>
      cases (show some (kv.1, q, y) = some z from e)
      exact ⟨p, rfl, ht, eq⟩
    | succ j =>
      obtain ⟨b, e1, e2, e3⟩ := hp j z (by simpa using e)
      exact ⟨b, by simpa using e1, e2, e3⟩
theorem mergeA_length {κ : Type} [DecidableEq κ] : ∀ (more kvs : List (κ × V)), (mergeA kvs more).length ≤ kvs.length + more.length
  | [], kvs => by simp [mergeA]
  | p :: r, kvs => by
    have h1 := mergeA_length r (putK kvs p.1 p.2)
    have h2 : (putK kvs p.1 p.2).length ≤ kvs.length + 1 := by unfold putK; split <;> simp
    show (mergeA (putK kvs p.1 p.2) r).length ≤ _
    rw [List.length_cons]; omega
def rDictT (K : PySem.W.Frag) : List V → Hp → VK → Prop := fun xs H Q => ∃ (a : Addr) (ps : List Addr) (kvs : List (List Key × V)), xs = [.ref a] ∧ SqL K H a (ps.map V.ref) ∧ Paired (PrT K H) ps kvs ∧ ∀ p, H p = none → Q (.ref p) (upd H p (.dT (mergeA [] kvs)))
theorem call_dictTt (hc : X.calm = true) (hu : X.A.units + 65 < cLine) : CallR X (.type "dict") (rDictT X.K) := by
  intro pins s σ H xs us Q I r q
  obtain ⟨a, ps, kvs, ex, hq, hp, q⟩ := q
  subst ex
  obtain ⟨u, eu, rx⟩ := vals1 r
  subst eu
  cases rx
  obtain ⟨its, rv, pl, hz⟩ := I.list hq
  have ei := refs_at rv
  subst ei
  rw [List.length_map] at hz
  obtain ⟨rs, rel, hl, hpr⟩ := pairs_T I hp
  obtain ⟨o, n, ho, hc', hd, hdat⟩ := pl
  have hr2 : X.A.in1.in1.units < cLine := by
    show X.A.units + 1 + 1 < cLine
    omega
  refine PySem.call_dict_pairsH (knd := tupleKind (mixKind X.prog X.w)) (ps := rs) (PairArg.list a (ps.map Value.ref).toArray (fun j => ps.getD j 0) (rs.map fun x => (Value.ref x.2.1, x.2.2))) (I.ok.hd hc) hr2 ⟨⟨o, n, ho, hc', hd, hdat⟩, ?_⟩ ⟨by simp, fun i key v hi => ?_⟩ (fun h' hk x hx => ?_) (by simp only [List.length_map, hl]; exact hz) fun h' tk hd' hk => ?_
  · refine ⟨by simp [hl], fun j k v hj => ?_⟩
    rw [List.getElem?_map] at hj
    cases er : rs[j]? with
    | none => rw [er] at hj; cases hj
    | some z =>
      rw [er] at hj
      cases hj
      obtain ⟨b, e1, e2, e3⟩ := hpr j z er
      refine ⟨by simp [e1], .inl ?_⟩
      have eb : ps.getD j 0 = b := by simp [e1]
      show IsTup s.heap (ps.getD j 0) _
      rw [eb]
      exact e2
  · have hi : (rs.map fun x => (Value.ref x.2.1, x.2.2))[i]? = some (key, v) := hi
    rw [List.getElem?_map] at hi
    cases er : rs[i]? with
    | none => rw [er] at hi; cases hi
    | some z =>
      rw [er] at hi
      cases hi
      exact ⟨z.1, z.2.1, rfl, rfl⟩
  · obtain ⟨j, hj⟩ := List.mem_iff_getElem?.mp hx
    obtain ⟨b, e1, e2, e3⟩ := hpr j x hj
    obtain ⟨ob, it, nn, g1, g2⟩ := key_of I.hok e3
    exact ⟨ob, it, nn, hk _ _ (Nat.ne_of_lt (Heap.lt_size g1)) (by simp) g1, g2⟩
  · have hm : (s.heap.objs.size == sysModules) = false := beq_eq_false_iff_ne.mpr (Nat.ne_of_gt I.big)
    have hlen : (mergeA [] kvs).length ≤ sizeLine := by
      refine Nat.le_trans (mergeA_length kvs []) ?_
      rw [List.length_nil, Nat.zero_add, Paired.length rel, hl]
      exact hz
    obtain ⟨q1, es, ep, g1, g2, g3, g4, g5, g6⟩ := hd'
    have key : KT (upd H s.heap.objs.size (.dT (mergeA [] kvs))) (mergeA [] kvs) (storedAllH [] rs) := (kt_all rel .nil).keeps fun c ys ec => by
      rw [upd_ne (ne_of_none ec (I.hok.fresh (Nat.le_refl _)))]
      exact ec
    refine ⟨.ref s.heap.objs.size, upd H s.heap.objs.size (.dT (mergeA [] kvs)), I.laid (t' := tk) (fun b o e => hk b o (by simp) e) (Nat.le_refl _) ⟨hlen, hm, _, key, q1, es, ep, g1, g2, g3, g4, g6⟩, rfl, q _ (I.hok.fresh (Nat.le_refl _))⟩
end
def pairsOf : List D → Option (List D × List D)
  | [] => some ([], [])
  | .tup [k, x] :: r => (match pairsOf r with | some (ks, xs) => some (k :: ks, x :: xs) | none => none)
  | _ => none
def keysT : List D → Option (List (List Key))
  | [] => some []
  | .tup ts :: r => (match keysOf ts, keysT r with | some k, some ks => some (k :: ks) | _, _ => none)
  | _ => none
def dictKF (lv : Bool) (ds : List D) (h : Cells) : Res D := match ds with
  | [d] => (match (lstOf h d).bind pairsOf with
    | some (kds, xs) => (match keysOf kds with
      | some ks => if ks.Nodup then alloc lv (.dK ks xs) h else .stuck
      | none => .stuck)
    | none => .stuck)
  | _ => .stuck
def dictTF (lv : Bool) (ds : List D) (h : Cells) : Res D := match ds with
  | [d] => (match (lstOf h d).bind pairsOf with
    | some (kds, xs) => (match keysT kds with
      | some ks => if ks.Nodup then alloc lv (.dT ks xs) h else .stuck
      | none => .stuck)
    | none => .stuck)
  | _ => .stuck
section
variable {K : PySem.W.Frag} {W : Wish} {r : Rm} {h : Cells} {H : Hp}
theorem pairsOf_ok : ∀ {ds : List D} {vs : List V} {kds xs : List D}, RVs K r h H ds vs → pairsOf ds = some (kds, xs) → ∃ (ps : List Addr) (kvs ws : List V), vs = ps.map V.ref ∧ RVs K r h H kds kvs ∧ RVs K r h H xs ws ∧ Paired (fun p kv => SqT K H p [kv.1, kv.2]) ps (kvs.zip ws)
  | [], vs, _, _, y, e => by
    cases (show some (([] : List D), ([] : List D)) = some _ from e)
    exact ⟨[], [], [], y.of_nil, RVs.nil, RVs.nil, .nil⟩
  | d :: ds, vs, kds, xs, y, e => by
    obtain ⟨v, w, rfl, ry, ys⟩ := y.of_cons
    unfold pairsOf at e
    split at e
    · rename_i q; cases q
    · rename_i k x r' q
      cases q
      split at e
      · rename_i ks' xs' e'
        cases e
        obtain ⟨ps, kvs, ws, e1, y1, y2, pr⟩ := pairsOf_ok ys e'
        obtain ⟨p, us, rfl, ep, yp⟩ := tup_ok ry
        obtain ⟨kv, wv, rfl, rk, rx⟩ := rvs2 yp
        exact ⟨p :: ps, kv :: kvs, wv :: ws, by rw [e1]; rfl, RVs.cons rk y1, RVs.cons rx y2, .cons (.inl (.inl ep)) pr⟩
      · cases e
    · cases e
theorem keysT_ok : ∀ {kds : List D} {kvs : List V} {ks : List (List Key)}, RVs K r h H kds kvs → keysT kds = some ks → Paired (fun v k => ∃ q, v = .ref q ∧ H q = some (.tup (k.map kV))) kvs ks
  | [], vs, ks, y, e => by
    cases (show some ([] : List (List Key)) = some ks from e)
    rw [y.of_nil]; exact .nil
  | d :: ds, vs, ks, y, e => by
    obtain ⟨v, w, rfl, ry, ys⟩ := y.of_cons
    unfold keysT at e
    split at e
    · rename_i q; cases q
    · rename_i ts r' q
      cases q
      split at e
      · rename_i k ks' e1 e2
        cases e
        obtain ⟨b, us, rfl, eb, yt⟩ := tup_ok ry
        exact .cons ⟨b, rfl, by rw [eb, keysOf_ok yt e1]⟩ (keysT_ok ys e2)
      · cases e
    · cases e
theorem prT_of {ps : List Addr} : ∀ {kvs ws : List V} {ks : List (List Key)}, Paired (fun p kv => SqT K H p [kv.1, kv.2]) ps (kvs.zip ws) → Paired (fun v k => ∃ q, v = .ref q ∧ H q = some (.tup (k.map kV))) kvs ks → kvs.length = ws.length → Paired (PrT K H) ps (ks.zip ws) := by
  induction ps with
  | nil =>
    intro kvs ws ks p q l
    cases kvs with
    | nil => cases q; cases ws with
      | nil => exact .nil
      | cons _ _ => simp at l
    | cons a b => cases ws with
      | nil => simp at l
      | cons c d => cases p
  | cons p0 ps ih =>
    intro kvs ws ks p q l
    cases kvs with
    | nil => cases p
    | cons a b =>
      cases ws with
      | nil => simp at l
      | cons c d =>
        cases p with
        | cons p1 p2 =>
          cases q with
          | cons q1 q2 =>
            obtain ⟨t, rfl, et⟩ := q1
            exact .cons ⟨t, p1, et⟩ (ih p2 q2 (by simpa using l))
theorem prK_of {ps : List Addr} : ∀ {ks : List Key} {ws : List V}, Paired (fun p kv => SqT K H p [kv.1, kv.2]) ps ((ks.map kV).zip ws) → Paired (fun p kv => SqT K H p [kV kv.1, kv.2]) ps (ks.zip ws) := by
  induction ps with
  | nil =>
    intro ks ws p
    cases ks with
    | nil => exact .nil
    | cons a b => cases ws with
      | nil => exact .nil
      | cons c d => cases p
  | cons p0 ps ih =>
    intro ks ws p
    cases ks with
    | nil => cases p
    | cons a b => cases ws with
      | nil => cases p
      | cons c d => cases p with
        | cons p1 p2 => exact .cons p1 (ih p2)
theorem zip_fst {κ : Type} : ∀ {ks : List κ} {vs : List V}, ks.length = vs.length → (ks.zip vs).map Prod.fst = ks
  | [], [], _ => rfl
  | [], _ :: _, h => by simp at h
  | _ :: _, [], h => by simp at h
  | k :: ks, v :: vs, h => by simp [zip_fst (ks := ks) (vs := vs) (by simpa using h)]
theorem calls_dictT (lv : Bool) : CallS K W (rDictT K) (dictTF lv) := by
  intro r h H ds vs Q hr y w
  unfold dictTF at w
  split at w
  case h_2 => exact w.elim
  rename_i d
  obtain ⟨v, rfl, rd⟩ := rvs1 y
  split at w
  case h_2 => exact w.elim
  rename_i kds xs e1
  obtain ⟨ys, el, ep⟩ := Option.bind_eq_some_iff.mp e1
  obtain ⟨a, us, rfl, ea, yl⟩ := lstOf_ok hr rd el
  obtain ⟨ps, kvs, ws, rfl, y1, y2, pr⟩ := pairsOf_ok yl ep
  split at w
  case h_2 => exact w.elim
  rename_i ks ek
  split at w
  case isFalse => exact w.elim
  rename_i nd
  have kp := keysT_ok y1 ek
  have l1 : kvs.length = ks.length := Paired.length kp
  have l2 : kds.length = xs.length := by
    have : ∀ {l : List D} {a b : List D}, pairsOf l = some (a, b) → a.length = b.length := by
      intro l
      induction l with
      | nil => intro a b e; cases (show some (([] : List D), ([] : List D)) = some (a, b) from e); rfl
      | cons z l ih =>
        intro a b e
        unfold pairsOf at e
        split at e
        · rename_i q; cases q
        · rename_i q; cases q
          split at e
          · rename_i e'; cases e; simp [ih e']
          · cases e
        · cases e
    exact this ep
  have l3 := y1.length
  have l4 := y2.length
  refine ⟨a, ps, ks.zip ws, rfl, .inl (.inl ea), prT_of pr kp (by omega), ?_⟩
  rw [mergeA_new _ _ (by simpa [zip_fst (show ks.length = ws.length by omega)] using nd), List.nil_append]
  exact alloc_dT hr y2 (by omega) w
theorem calls_dictK (lv : Bool) : CallS K W (fun xs H Q => ∃ (a : Addr) (ps : List Addr) (kvs : List (Key × V)), xs = [.ref a] ∧ SqL K H a (ps.map V.ref) ∧ Paired (fun p kv => SqT K H p [kV kv.1, kv.2]) ps kvs ∧ ∀ p, H p = none → Q (.ref p) (upd H p (.dK (mergeK [] kvs)))) (dictKF lv) := by
  intro r h H ds vs Q hr y w
  unfold dictKF at w
  split at w
  case h_2 => exact w.elim
  rename_i d
  obtain ⟨v, rfl, rd⟩ := rvs1 y
  split at w
  case h_2 => exact w.elim
  rename_i kds xs e1
  obtain ⟨ys, el, ep⟩ := Option.bind_eq_some_iff.mp e1
  obtain ⟨a, us, rfl, ea, yl⟩ := lstOf_ok hr rd el
  obtain ⟨ps, kvs, ws, rfl, y1, y2, pr⟩ := pairsOf_ok yl ep
  split at w
  case h_2 => exact w.elim
  rename_i ks ek
  split at w
  case isFalse => exact w.elim
  rename_i nd
  have ev := keysOf_ok y1 ek
  subst ev
  have l2 : kds.length = xs.length := by
    have : ∀ {l : List D} {a b : List D}, pairsOf l = some (a, b) → a.length = b.length := by
      intro l
      induction l with
      | nil => intro a b e; cases (show some (([] : List D), ([] : List D)) = some (a, b) from e); rfl
      | cons z l ih =>
        intro a b e
        unfold pairsOf at e
        split at e
        · rename_i q; cases q
        · rename_i q; cases q
          split at e
          · rename_i e'; cases e; simp [ih e']
          · cases e
        · cases e
    exact this ep
  have l3 := y1.length
  rw [List.length_map] at l3
  have l4 := y2.length
  refine ⟨a, ps, ks.zip ws, rfl, .inl (.inl ea), prK_of pr, ?_⟩
  rw [mergeA_K, mergeA_new _ _ (by simpa [zip_fst (show ks.length = ws.length by omega)] using nd), List.nil_append]
  exact alloc_dK hr y2 (by omega) w
end

/-! ### dict displays -/
def flatP : List (V × V) → List V
  | [] => []
  | p :: r => p.1 :: p.2 :: flatP r
abbrev RRp (K : PySem.W.Frag) : RRT (List D) (List (V × V)) := fun r h H ds ps => RVs K r h H ds (flatP ps)
structure PPM (X : Cx) (W : Wish) (pos : Pos) (keys : List (Option Expr)) (values : List Expr) (g : MA) : Prop where
  ex : ∃ trs, PPs X pos keys values trs ∧ ∀ σ H (Q : List (V × V) → Hp → Prop), tG X.K W (RRp X.K) g σ H Q → tPairs trs σ H Q
section
variable {X : Cx} {W : Wish} {pos : Pos} {keys : List (Option Expr)} {values : List Expr} {k v : Expr} {fk fv : ME} {g : MA}
theorem ppm_nil : PPM X W pos [] [] A_nil := ⟨[], pps_nil, fun σ H Q ⟨r, h, m, x, w⟩ => w r H [] x.hr .refl RVs.nil⟩
theorem ppm_cons (hk : PM X W k fk) (hv : PM X W v fv) (hr : PPM X W pos keys values g) : PPM X W pos (some k :: keys) (v :: values) (A_cons fk (A_cons fv g)) := by
  obtain ⟨trs, h1, h2⟩ := hr.ex
  refine ⟨_, pps_cons hk.pe hv.pe h1, fun σ H Q ⟨r, h, m, x, w⟩ => ?_⟩
  unfold A_cons at w
  refine ⟨r, h, m, x, (Wg.bind (RR0 := RRv X.K) w).imp fun kv H1 ⟨r1, h1', d, hr1, p1, rd, _, w1⟩ => ?_⟩
  rw [Res.bind_assoc] at w1
  have x1 := x.post p1 hr1
  refine ⟨r1, h1', m, x1, (Wg.bind (RR0 := RRv X.K) w1).imp fun vv H2 ⟨r2, h2', e, hr2, p2, re, _, w2⟩ => ?_⟩
  rw [Res.bind_assoc] at w2
  refine h2 σ H2 _ ⟨r2, h2', m, x1.post p2 hr2, (Wg.bind (RR0 := RRp X.K) w2).imp fun ps H3 ⟨r3, h3, ds, hr3, p3, rs, _, w3⟩ => ?_⟩
  exact w3 r3 H3 _ hr3 .refl (RVs.cons ((rd.post p2.p0).post p3.p0) (RVs.cons (re.post p3.p0) rs))
end
def dispD : List D → Option (List Key × List D)
  | [] => some ([], [])
  | k :: x :: r => (match keyOf k, dispD r with | some j, some (ks, xs) => some (j :: ks, x :: xs) | _, _ => none)
  | _ => none
def E_disp (lv : Bool) (g : MA) : ME := fun m h => (g m h).bind fun ds h1 => match dispD ds with
  | some (ks, xs) => if ks.Nodup ∧ ks.length ≤ 15 then alloc lv (.dK ks xs) h1 else .stuck
  | none => .stuck
section
variable {K : PySem.W.Frag} {W : Wish} {r : Rm} {h : Cells} {H : Hp}
theorem dispD_ok : ∀ {ds : List D} {ps : List (V × V)} {ks : List Key} {xs : List D}, RVs K r h H ds (flatP ps) → dispD ds = some (ks, xs) → ∃ ws, ps = (ks.zip ws).map (fun kv => (kV kv.1, kv.2)) ∧ RVs K r h H xs ws ∧ ks.length = xs.length
  | [], ps, ks, xs, y, e => by
    cases (show some (([] : List Key), ([] : List D)) = some (ks, xs) from e)
    cases ps with
    | nil => exact ⟨[], rfl, RVs.nil, rfl⟩
    | cons p ps => have := y.length; simp [flatP] at this
  | [d], ps, ks, xs, y, e => by cases (show none = some (ks, xs) from e)
  | d :: x :: ds, ps, ks, xs, y, e => by
    cases ps with
    | nil => have := y.length; simp [flatP] at this
    | cons p ps =>
      simp only [flatP] at y
      obtain ⟨v1, w1, e1, rk, y1⟩ := y.of_cons
      cases e1
      obtain ⟨v2, w2, e2, rx, y2⟩ := y1.of_cons
      cases e2
      unfold dispD at e
      split at e
      · rename_i j ks' xs' ej e'
        cases e
        obtain ⟨ws, e3, y3, l⟩ := dispD_ok y2 e'
        refine ⟨p.2 :: ws, ?_, RVs.cons rx y3, by simp [l]⟩
        rw [e3]
        have := keyOf_ok rk ej
        obtain ⟨p1, p2⟩ := p
        simp only at this
        rw [this]
        rfl
      · cases e
end
theorem pm_disp {X : Cx} {W : Wish} {pos : Pos} {keys : List (Option Expr)} {values : List Expr} {g : MA} (lv : Bool) (hu : X.A.units + 65 < cLine) (hp : PPM X W pos keys values g) (hall : keys.all (·.isSome) = true := by rfl) (hl : keys.length = values.length := by rfl)
    (h0 : keys ≠ [] := by exact List.cons_ne_nil _ _) (h15 : keys.length ≤ 15 := by decide) : PM X W (.Dict keys values pos) (E_disp lv g) := by
  obtain ⟨trs, h1, h2⟩ := hp.ex
  refine ⟨(pe_disp h1 hall hl h0 h15).imp fun σ H Q ⟨r, h, m, x, w⟩ => fun p hp => ?_⟩
  have hr := x.hr
  have hno : ∀ vs, (HO.dK []) ≠ .tup vs := fun vs z => by cases z
  have q0 := Post0.hide (r := r) (h := h) (o := .dK []) hp
  have hr0 := hr.hide hp hno
  refine h2 σ _ _ ⟨r.hide p, h, m, x.at hr0 q0 rfl, ?_⟩
  unfold E_disp at w
  cases eg : g m h with
  | stuck => rw [eg] at w; exact w.elim
  | exc y h' => rw [eg] at w; exact W.hide hp (hr.notu hp) w
  | ok ds h' =>
    rw [eg] at w
    simp only [Res.bind_ok] at w
    intro r2 H2 ps hr2 p2 rs
    have us : r2.u = p :: r.u := p2.us
    have bs : r2.b = r.b := p2.bs
    have e2 : H2 p = some (.dK []) := (p2.kU p List.mem_cons_self).trans upd_same
    have kU : ∀ a ∈ r.u, H2 a = H a := fun a ha => (p2.kU a (List.mem_cons_of_mem _ ha)).trans (by rw [upd_ne (fun z : a = p => hr.notu hp (z ▸ ha))])
    have un : p ∉ r.u := hr.notu hp
    split at w
    · rename_i ks xs ed
      split at w
      · rename_i gd
        obtain ⟨ws, rfl, yx, l⟩ := dispD_ok rs ed
        refine ⟨e2, ks.zip ws, rfl, by rw [List.length_zip]; omega, ?_⟩
        have q := Post.shown hr hp hr2 p2.p0 us bs kU
        have hd := hr2.drop us un
        have y2 := yx.post (Post0.drop hr2 us)
        have z := alloc_dK hd y2 l (w.post q) p del_same
        rw [upd_del] at z
        have l2 := yx.length
        rw [mergeA_K, mergeA_new _ _ (by simpa [zip_fst (show ks.length = ws.length by omega)] using gd.1), List.nil_append]
        exact z
      · exact w.elim
    · exact w.elim

/-! ### list(d.values()) -/
def listVals (lv : Bool) (d : D) (h : Cells) : Res D := match d with
  | .dK _ xs => if xs.length ≤ big then alloc lv (.lst xs) h else .stuck
  | .dT _ xs => if xs.length ≤ big then alloc lv (.lst xs) h else .stuck
  | _ => .stuck
section
variable {X : Cx} {W : Wish} {e : Expr} {td : TE} {f : ME} {p apos cpos pos : Pos}
def tListV (td : TE) : TE := fun σ H Q => td σ H fun x H1 => ∃ d o u vs, x = .ref d ∧ H1 d = some (.frz o u) ∧ VsOf u vs ∧ vs.length ≤ sizeLine ∧ ∀ l, H1 l = none → Q (.ref l) (upd H1 l (.lst vs))
theorem vals_of_all : ∀ (vs : List V) (us : List Value), vs.length = us.length → (∀ (j : Nat) (v : V) (u : Value), vs[j]? = some v → us[j]? = some u → RelV v u) → Vals vs us
  | [], [], _, _ => .nil
  | [], _ :: _, h, _ => by simp at h
  | _ :: _, [], h, _ => by simp at h
  | v :: vs, u :: us, h, k => .cons (k 0 v u rfl rfl) (vals_of_all vs us (by simpa using h) fun j a b e1 e2 => k (j + 1) a b (by simpa using e1) (by simpa using e2))
theorem pe_listV (hc : X.calm = true) (he : PE X e td) (hg : Gl X "list") (hm : X.mg "list" = none) (hbase : attributeBase e "values" X.env (eval e X.env) = eval e X.env) (hline : (apos.endLine == cpos.line) = true)
    (na : starEach [.Call (.Attribute e "values" apos) [] [] cpos] X.env = (false, eval (.Call (.Attribute e "values" apos) [] [] cpos) X.env) :: starEach [] X.env) : PE X (.Call (.Name "list" p) [.Call (.Attribute e "values" apos) [] [] cpos] [] pos) (tListV td) := by
  refine ⟨fun pins s σ H Q I h => ?_⟩
  refine Call_ (ld_blt I hg hm boot_list (PyProof.Rows.callWith_type1 (PyProof.Rows.args_cons ?_ na) na rfl))
  refine wpAny_Call_method (T := "dict") (id := "dict.values") hbase rfl hline PySem.F.plainAttrs_dict PySem.F.slot_dict_values PySem.F.type_dict_values (thn (he.run pins s σ H _ I h) fun u s1 ⟨x, H1, I1, rx, d, o, ob, vs, ex, hd, hv, hz, q⟩ => ?_)
  subst ex
  obtain rfl : u = Value.ref d := rx
  obtain ⟨hs, hgd, hx, es, ep, hdt, hsz, ent⟩ := frz_vals I1 hd hv
  have raw : s1.heap.DictRaw d es ep := ⟨o, hgd, hx, hdt⟩
  refine ⟨raw.typeIs, fun b e => by cases e; exact ⟨o, hgd, hx.2.1⟩, ?_⟩
  have I2 : Inv X pins σ H1 { s1 with heap := s1.heap.push { cls := .type "dict_values", data := .fields #[.ref d] } } := I1.kept (t' := s1.toks) fun b ob q => Heap.get?_push_of_some _ q
  have raw2 := raw.push { cls := .type "dict_values", data := .fields #[.ref d] }
  show wpAny _ _ (callWith cpos (.builtin "dict.values") [.ref d] [] []) _ X.xe s1
  refine method_meetsIn PySem.F.slot_dict_values PySem.F.entry_dict_values rfl (PySem.evalArgs_none ⟨rfl, raw.typeIs, PySem.F.args_dict_values_1 _, _, meets_dict_values_raw d hs, ⟨es, ep, raw⟩, ?_⟩)
  refine PyProof.Rows.args_nil ?_
  refine PySem.W.kdl_call (PySem.KdlSrc.rawValues (r := s1.heap.objs.size) (d := d) (es := es) (ep := ep)) (I1.ok.hd hc) ⟨⟨_, Heap.get?_push_size _ rfl, rfl, rfl⟩, raw2⟩ (by rw [hsz]; exact hz) fun h' tk acc c' hk e' hi => ?_
  have hl : acc.toList.length = vs.length := by rw [Array.length_toList, hi.1, hsz]
  refine ⟨.ref (s1.heap.push { cls := .type "dict_values", data := .fields #[.ref d] }).objs.size, upd H1 _ (.lst vs), I2.laid (t' := tk) hk (Nat.le_refl _) (show ObjOk X.prog X.w _ _ _ (.lst vs) from ⟨hz, acc.toList, c', vals_of_all vs acc.toList hl.symm fun j v u e1 e2 => ?_, ?_⟩), rfl, q _ (I2.hok.fresh (Nat.le_refl _))⟩
  · rw [Array.getElem?_toList] at e2
    obtain ⟨hj, rfl⟩ := hi.2 j u e2
    obtain ⟨en, hen, rv⟩ := ent j v e1
    rw [Array.getElem?_eq_getElem hj] at hen
    cases hen
    exact rv
  · rw [Array.toArray_toList]; exact e'
theorem pm_listVals (lv : Bool) (hc : X.calm = true) (he : PM X W e f) (hm : X.mg "list" = none) (hg : Gl X "list" := by rfl) (hbase : attributeBase e "values" X.env (eval e X.env) = eval e X.env := by rfl) (hline : (apos.endLine == cpos.line) = true := by rfl)
    (na : starEach [.Call (.Attribute e "values" apos) [] [] cpos] X.env = (false, eval (.Call (.Attribute e "values" apos) [] [] cpos) X.env) :: starEach [] X.env := by rfl) : PM X W (.Call (.Name "list" p) [.Call (.Attribute e "values" apos) [] [] cpos] [] pos) (E1 (listVals lv) f) := by
  refine ⟨(pe_listV hc (pe_lk he.pe) hg hm hbase hline na).imp fun σ H Q ⟨r, h, m, x, w⟩ => ?_⟩
  unfold E1 at w
  refine ⟨r, h, m, x, (Wg.bind (RR0 := RRv X.K) w).imp fun v H1 ⟨r1, h1, d, hr1, p1, rd, _, w1⟩ => ?_⟩
  unfold listVals at w1
  split at w1
  · split at w1
    · rename_i hz
      refine lk_dK (Q := fun x H1 => ∃ d o u vs, x = V.ref d ∧ H1 d = some (.frz o u) ∧ VsOf u vs ∧ vs.length ≤ sizeLine ∧ ∀ l, H1 l = none → Q (.ref l) (upd H1 l (.lst vs))) hr1 rd fun H' a o vs hr p e l z nl y => ?_
      exact ⟨a, o, _, vs, e, z, .inl ⟨_, rfl, (zip_snds (by rw [l]; exact y.length)).symm⟩, by rw [← y.length]; exact big_le hz, alloc_lst hr y (w1.post p)⟩
    · exact w1.elim
  · split at w1
    · rename_i hz
      refine lk_dT (Q := fun x H1 => ∃ d o u vs, x = V.ref d ∧ H1 d = some (.frz o u) ∧ VsOf u vs ∧ vs.length ≤ sizeLine ∧ ∀ l, H1 l = none → Q (.ref l) (upd H1 l (.lst vs))) hr1 rd fun H' a o vs hr p e l z nl y => ?_
      exact ⟨a, o, _, vs, e, z, .inr ⟨_, rfl, (zip_snds (by rw [l]; exact y.length)).symm⟩, by rw [← y.length]; exact big_le hz, alloc_lst hr y (w1.post p)⟩
    · exact w1.elim
  · exact w1.elim
end
end Mi

/-! Mi14: sets of lists, counted or sorted; index. -/
namespace Mi
open PySem PySem.Spec PyProof.Rows L2
/-- a set just made -/
abbrev set0 (w : World) : Obj := { cls := .type "set", dict := none, data := .set #[] 0 (.fresh 0 0 (!w.params.followText "set-order")) }
section
variable {P : Program} {w : World} {A : Around} {E : Value → Shared → Prop} {s : Shared}
set_option maxHeartbeats 8000000 in
theorem call_set_lst {l : Addr} {items : Array Value} (ns : List Int) {Q : Value → Shared → Prop} (hh : A.handled = none) (hl : s.heap.IsList l items) (hit : IntsAre items.toList ns) (hb : ns.length + 1 < scanBound)
    (h : ∀ (h' : Heap) (tk c : Nat), SetR w h' s.heap.objs.size (fun j => decide (j ∈ ns)) c → c ≤ ns.length → (∀ b o, s.heap.get? b = some o → h'.get? b = some o) → Q (.ref s.heap.objs.size) { s with heap := h', toks := tk }) :
    wpAny (model P w) A (call (.type "set") [.ref l]) Q E s := by
  have hisz : items.size = ns.length := by rw [← Array.length_toList]; exact IntsAre.length hit
  obtain ⟨c, tl, m0⟩ := F.called_set.mro
  have m1 := F.called_set.made
  have m2 := F.called_set.sub
  refine wpAny_call (codeAny_of_tree ?_)
  show wpAny _ _ (callAny (.type "set") _) _ _ _
  refine wpAny_pure ⟨Code.quiet_builtin _ (by decide +kernel), codeAny_builtin F.entry_type_call ?_⟩
  rw [Around.under_plain (weight_type_call_type "set" [.ref l] []) rfl]
  have m3 := F.called_set.notType
  have m4 := F.called_set.canCreate
  have m5 := F.typeCall_set_1 (.ref l)
  repeat (any_goals (first | assumption | wp_step))
  refine codeAny_mono (code_set_led1 (.ref l) (E := E) (Q₁ := fun obj t => obj = .ref s.heap.objs.size ∧ t = { s with heap := s.heap.push (set0 w) }) ⟨rfl, rfl⟩) fun r t hr => ?_
  cases r with
  | error e => exact hr
  | ok fl =>
    cases fl with
    | next => first | exact hr | exact hr.elim
    | brk => first | exact hr | exact hr.elim
    | cont => first | exact hr | exact hr.elim
    | ret obj =>
      obtain ⟨rfl, rfl⟩ := hr
      have gS : (s.heap.push (set0 w)).get? s.heap.objs.size = some (set0 w) := Heap.get?_push_size _ rfl
      have gT : Shared.TypeIs { s with heap := s.heap.push (set0 w) } (.ref s.heap.objs.size) "set" := ⟨_, gS, rfl⟩
      have m6 := F.called_set.init.lookup
      have m7 := F.called_set.init.bind (.ref s.heap.objs.size)
      repeat (any_goals (first | assumption | wp_step))
      refine codeAny_mono (codeAny_call_builtin (R := wants (fun r t => r = .none ∧ ∃ h' tk c, t = { s with heap := h', toks := tk } ∧ SetR w h' s.heap.objs.size (fun j => decide (j ∈ ns)) c ∧ c ≤ ns.length ∧ ∀ b o, s.heap.get? b = some o → h'.get? b = some o) E)
        F.called_set.init.plain F.entry_set_init (check_set_init_1 gT ?_)) fun r2 t2 hr2 => ?_
      · obtain ⟨⟨c1, c2, c3, c4⟩, hol, hcl, nl, hdl⟩ := hl
        simp only at hcl hdl
        subst hcl; subst hdl
        have lol : (s.heap.push (set0 w)).get? l = some { cls := .type "list", dict := c2, data := .seq items nl, slots := c4 } := Heap.get?_push_of_some _ hol
        have n1 := F.sub_list_set
        have n2 := F.sub_list_frozenset
        have n3 : (Value.type "list" == Value.type "dict") = false := by decide
        have lis : (s.heap.push (set0 w)).IsList l items := ⟨_, lol, rfl, nl, rfl⟩
        unfold Builtin.«set.__init__» noKeywords Builtin.Frozenset.updateFrom
        generalize hPI : pyIter = PI
        wp_walk
        subst hPI
        refine wpAny_pyIter_list lis ?_
        refine wpAny_bind (wpAny_runValue ?_)
        have below : l < s.heap.objs.size := Heap.lt_size hol
        have calm : A.in1.in1.in1.handled = none := by simp [hh]
        have z1 : (s.heap.push (set0 w)).objs.size = s.heap.objs.size + 1 := Heap.size_push ..
        have z2 : l ≠ (s.heap.push (set0 w)).objs.size := by rw [z1]; exact Nat.ne_of_lt (Nat.lt_succ_of_lt below)
        have z3 : s.heap.objs.size ∉ [(s.heap.push (set0 w)).objs.size, l] := by
          rw [z1]; simp only [List.mem_cons, List.not_mem_nil, or_false, not_or]
          exact ⟨Nat.ne_of_lt (Nat.lt_succ_self _), Nat.ne_of_gt below⟩
        have z4 : ∀ (i : Nat) (v : Value), items[i]? = some v → ∃ k t, ns[i]? = some k ∧ v = .int k t := fun i v hv => by
          have hi : i < ns.length := by rw [← hisz]; exact (Array.getElem?_eq_some_iff.mp hv).1
          obtain ⟨t, e⟩ := PyProof.Rows.IntsAre.int_at hit i v (by rw [Array.getElem?_toList]; exact hv)
          exact ⟨ns[i], t, List.getElem?_eq_getElem hi, by rw [e, List.getD_eq_getElem?_getD, List.getElem?_eq_getElem hi] <;> rfl⟩
        refine set_update_ints ((Walks.list calm _ l z2 items).toS) s.heap.objs.size z3 ns hisz hb z4 (items.size - 0) 0 _ (by omega) (Nat.zero_le _) ⟨⟨_, Heap.get?_push_size _ rfl, rfl, rfl⟩, lis.push _⟩ ?startsSo ?endsSo
        case startsSo => exact ⟨0, Nat.le_refl 0, setR_new_at (Heap.get?_push_of_some _ gS)⟩
        case endsSo =>
          intro t3 c3 hm hc3 hS3
          obtain ⟨h', g2, d2, tk2, os2⟩ := t3
          cases (show g2 = s.gens from hm.gens)
          cases (show d2 = s.drawn from hm.drawn)
          cases (show os2 = s.os from hm.os)
          show wpAny _ _ _ _ _ _
          refine wpAny_pure ?_
          show wpAny _ _ (ret Value.none) _ _ _
          rw [hisz] at hc3
          refine wpAny_pure ⟨rfl, h', tk2, c3, rfl, hS3, hc3, fun b o e => ?_⟩
          have b0 : b < s.heap.objs.size := Heap.lt_size e
          refine hm.heap b o ?_ (Heap.get?_push_of_some _ (Heap.get?_push_of_some _ e))
          simp only [List.mem_cons, List.not_mem_nil, or_false, not_or]
          exact ⟨Nat.ne_of_lt b0, by rw [z1]; exact Nat.ne_of_lt (Nat.lt_succ_of_lt b0)⟩
      · cases r2 with
        | error e => exact hr2
        | ok fl2 =>
          cases fl2 with
          | next => exact hr2.elim
          | brk => exact hr2.elim
          | cont => exact hr2.elim
          | ret v =>
            obtain ⟨rfl, h', tk2, c3, rfl, g1, g2, g3⟩ := hr2
            repeat (any_goals (first | assumption | wp_step))
            exact h _ _ _ g1 g2 g3
end
end Mi

/-! Mi15: len(set(..)), sorted(set(..)), index. -/
namespace Mi
open PySem PySem.Spec PyProof.Rows L2
/-! ### sorted(set(ints)) -/
def insI (x : Int) : List Int → List Int
  | [] => [x]
  | y :: r => if x < y then x :: y :: r else if x = y then y :: r else y :: insI x r
def sortDedup (ns : List Int) : List Int := ns.foldr insI []
theorem mem_insI {x k : Int} : ∀ {l : List Int}, k ∈ insI x l ↔ k = x ∨ k ∈ l
  | [] => by simp [insI]
  | y :: r => by
    unfold insI
    split
    · simp
    · split
      · rename_i e; subst e; simp
      · simp only [List.mem_cons, mem_insI (l := r)]
        constructor
        · rintro (h | h | h) <;> simp [h]
        · rintro (h | h | h) <;> simp [h]
theorem insI_pw {x : Int} : ∀ {l : List Int}, l.Pairwise (· < ·) → (insI x l).Pairwise (· < ·)
  | [], _ => by simp [insI]
  | y :: r, h => by
    obtain ⟨h1, h2⟩ := List.pairwise_cons.mp h
    unfold insI
    split
    · rename_i c
      refine List.pairwise_cons.mpr ⟨fun z hz => ?_, h⟩
      rcases List.mem_cons.mp hz with e | e
      · rw [e]; exact c
      · exact Int.lt_trans c (h1 z e)
    · split
      · exact h
      · refine List.pairwise_cons.mpr ⟨fun z hz => ?_, insI_pw h2⟩
        rcases mem_insI.mp hz with e | e
        · omega
        · exact h1 z e
theorem mem_sortDedup {k : Int} : ∀ {ns : List Int}, k ∈ sortDedup ns ↔ k ∈ ns
  | [] => by simp [sortDedup]
  | n :: ns => by
    show k ∈ insI n (sortDedup ns) ↔ _
    rw [mem_insI, mem_sortDedup (ns := ns), List.mem_cons]
theorem sortDedup_pw : ∀ (ns : List Int), (sortDedup ns).Pairwise (· < ·)
  | [] => List.Pairwise.nil
  | n :: ns => insI_pw (sortDedup_pw ns)
theorem sorted_unique : ∀ {a b : List Int}, a.Pairwise (· < ·) → b.Pairwise (· < ·) → (∀ k, k ∈ a ↔ k ∈ b) → a = b
  | [], [], _, _, _ => rfl
  | [], y :: b, _, _, h => by have := (h y).mpr List.mem_cons_self; simp at this
  | x :: a, [], _, _, h => by have := (h x).mp List.mem_cons_self; simp at this
  | x :: a, y :: b, ha, hb, h => by
    obtain ⟨ha1, ha2⟩ := List.pairwise_cons.mp ha
    obtain ⟨hb1, hb2⟩ := List.pairwise_cons.mp hb
    have exy : x = y := by
      rcases List.mem_cons.mp ((h x).mp List.mem_cons_self) with e | e
      · exact e
      · rcases List.mem_cons.mp ((h y).mpr List.mem_cons_self) with e' | e'
        · exact e'.symm
        · have := hb1 x e; have := ha1 y e'; omega
    subst exy
    rw [sorted_unique ha2 hb2 fun k => ?_]
    constructor
    · intro hk
      rcases List.mem_cons.mp ((h k).mp (List.mem_cons_of_mem _ hk)) with e | e
      · have := ha1 k hk; omega
      · exact e
    · intro hk
      rcases List.mem_cons.mp ((h k).mpr (List.mem_cons_of_mem _ hk)) with e | e
      · have := hb1 k hk; omega
      · exact e
def sortSetF (lv : Bool) (d : D) (h : Cells) : Res D := match (lstOf h d).bind intsOf with
  | some ns => if ns.length < 64 then alloc lv (.lst ((sortDedup ns).map D.int)) h else .stuck
  | none => .stuck
def rSetL (K : PySem.W.Frag) (w : World) : List V → Hp → VK → Prop := fun xs H Q => ∃ (l : Addr) (ns : List Int), xs = [V.ref l] ∧ SqL K H l (ns.map V.int) ∧ ns.length < 64 ∧ ∀ p c, H p = none → c ≤ ns.length → Q (.ref p) (upd H p (SetO w p (fun j => decide (j ∈ ns)) c))
section
variable {X : Cx} {W : Wish}
theorem cr_setL (hc : X.calm = true) : CallR X (.type "set") (rSetL X.K X.w) := by
  intro pins s σ H xs us Q I r h
  obtain ⟨l, ns, rfl, hl, hf, q⟩ := h
  rw [Vals.ref1 r]
  obtain ⟨its, rv, pl, hz⟩ := I.list hl
  have hn : H s.heap.objs.size = none := I.hok.fresh (Nat.le_refl _)
  refine call_set_lst (P := X.prog) (w := X.w) ns (I.ok.hd hc) pl.isList (ints_of_vals rv) (by unfold scanBound; omega) fun h' tk c R hcn k => ?_
  exact ⟨.ref s.heap.objs.size, upd H s.heap.objs.size (SetO X.w s.heap.objs.size (fun j => decide (j ∈ ns)) c), I.laid (t' := tk) k (Nat.le_refl _) (setO_new R), rfl, q _ c hn hcn⟩
theorem rvs_ints {K : PySem.W.Frag} {r : Rm} {h : Cells} {H : Hp} : ∀ ns : List Int, RVs K r h H (ns.map D.int) (ns.map V.int)
  | [] => RVs.nil
  | n :: ns => RVs.cons rv_int (rvs_ints ns)
theorem pm_sortSet {a : Expr} {f : ME} {p p2 pos pos2 : Pos} (lv : Bool) (hc : X.calm = true) (hu : X.A.units + 65 < cLine) (ha : PM X W a f) (hm : X.mg "sorted" = none) (hm2 : X.mg "set" = none) (hg : Gl X "sorted" := by rfl) (hg2 : Gl X "set" := by rfl)
    (na : starEach [a] X.env = (false, eval a X.env) :: starEach [] X.env := by rfl) (na2 : starEach [.Call (.Name "set" p2) [a] [] pos2] X.env = (false, eval (.Call (.Name "set" p2) [a] [] pos2) X.env) :: starEach [] X.env := by rfl) :
    PM X W (.Call (.Name "sorted" p) [.Call (.Name "set" p2) [a] [] pos2] [] pos) (E1 (sortSetF lv) f) := by
  have h1 := pe_callTy (pos := pos2) (p := p2) (cr_setL hc) hg2 hm2 PyProof.Rows.boot_set (pa_cons ha.pe pa_nil na) (by decide) (by decide) na rfl
  refine ⟨(pe_callB (cr_sortedSet hc) hg hm (by decide +kernel) (pa_cons h1 pa_nil na2) (by decide) (by decide) na2 rfl).imp fun σ H Q ⟨r, h, m, x, w⟩ => ?_⟩
  unfold E1 at w
  refine ⟨r, h, m, x, (Wg.bind (RR0 := RRv X.K) w).imp fun v H1 ⟨r1, h1, d, hr1, p1, rd, _, w1⟩ => ?_⟩
  unfold sortSetF at w1
  split at w1
  · rename_i ns e
    split at w1
    · rename_i hl
      obtain ⟨l, rfl, el⟩ := ints_ok hr1 rd e
      refine ⟨l, ns, rfl, .inl (.inl el), hl, fun q c hq hcn => ⟨q, _, c, rfl, upd_same, by omega, fun out t pw mm len ht => ?_⟩⟩
      have eo : out = sortDedup ns := sorted_unique pw (sortDedup_pw ns) fun k => by rw [mm k, mem_sortDedup, decide_eq_true_eq]
      subst eo
      exact alloc_lst (hr1.new hq) (rvs_ints _) (w1.post (Post.new hr1 hq)) t ht
    · exact w1.elim
  · exact w1.elim

/-! ### len(set(tuples of ints)) -/
def intsOfT : List D → Option (List (List Int))
  | [] => some []
  | .tup ts :: r => (match intsOf ts, intsOfT r with | some k, some ks => some (k :: ks) | _, _ => none)
  | _ => none
def lenSetF (d : D) (h : Cells) : Res D := match (lstOf h d).bind intsOfT with
  | some ks => if ks.length < 64 ∧ ks.Nodup then .ok (.int ks.length) h else .stuck
  | none => .stuck
def tLenT (K : PySem.W.Frag) (ta : TE) : TE := fun σ H Q => ta σ H fun x H1 => ∃ (l : Addr) (ks : List (Addr × List Int)), x = V.ref l ∧ SqL K H1 l (ks.map fun p => V.ref p.1) ∧ (∀ p ∈ ks, SqT K H1 p.1 (p.2.map V.int)) ∧ ks.length < 64 ∧ (ks.map (·.2)).Nodup ∧ Q (.int ks.length) H1
theorem pe_lenT {a : Expr} {ta : TE} {p p2 q pos : Pos} (hc : X.calm = true) (hu : X.A.units + 65 < cLine) (hg : Gl X "len") (hm : X.mg "len" = none) (hg2 : Gl X "set") (hm2 : X.mg "set" = none) (ha : PE X a ta)
    (na : starEach [a] X.env = (false, eval a X.env) :: starEach [] X.env) : PE X (.Call (.Name "len" p) [.Call (.Name "set" p2) [a] [] q] [] pos) (tLenT X.K ta) := by
  refine ⟨fun pins s σ H Q I h => Call_ (ld_blt I hg hm PySem.boot_len (PyProof.Rows.callWith_builtin1 (PyProof.Rows.args_cons (Call_ (ld_blt I hg2 hm2 PyProof.Rows.boot_set (PyProof.Rows.callWith_type1 (PyProof.Rows.args_cons (thn (ha.run pins s σ H _ I h) fun v s1 ⟨x, H1, I1, r1, q1⟩ => PyProof.Rows.args_nil ?_) na) na rfl))) rfl) rfl rfl))⟩
  obtain ⟨l, ks, rfl, hq, hk, hf, nd, q1⟩ := q1
  cases (show v = Value.ref l from r1)
  obtain ⟨its, rv, pl, hz⟩ := I1.list hq
  refine call_set_tups (P := X.prog) (w := X.w) ks (I1.ok.hd hc) pl.isList (by simpa using refs_of_vals rv) (fun p hp => I1.isT (hk p hp)) hf (by omega) fun h' tk L es ep t R g k => PyProof.Rows.args_nil ?_
  have hl : es.size = ks.length := by
    have e1 : es.size = L.length := by
      have := congrArg List.length R.rows
      rw [Array.length_toList] at this
      rw [this]
      unfold rowsOf
      rw [List.length_map]
    have e2 : (L.map (·.2)).Perm (ks.map (·.2)) := by
      rw [List.perm_ext_iff_of_nodup R.nd nd]
      intro z
      constructor
      · intro hz
        obtain ⟨p, hp, rfl⟩ := List.mem_map.mp hz
        exact List.mem_map_of_mem (List.mem_of_mem_take (g.sub p hp))
      · intro hz
        obtain ⟨p, hp, rfl⟩ := List.mem_map.mp hz
        exact g.all p (by rw [List.take_length]; exact hp)
    have := e2.length_eq
    rw [List.length_map, List.length_map] at this
    omega
  obtain ⟨o, ho, hex, hd⟩ := R.ob
  have I2 : Inv X pins σ H1 { s1 with heap := h', toks := tk } := I1.kept k
  exact call_len_set ho hex hd (SetTR.fits (s := { s1 with heap := h', toks := tk }) R) (by omega) ⟨.int ks.length, H1, I2.tok _, ⟨_, by rw [hl]⟩, q1⟩
theorem intsOfT_ok {K : PySem.W.Frag} {r : Rm} {h : Cells} {H : Hp} : ∀ {ds : List D} {vs : List V} {ks : List (List Int)}, RVs K r h H ds vs → intsOfT ds = some ks → ∃ ps : List (Addr × List Int), vs = ps.map (fun p => V.ref p.1) ∧ ps.map (·.2) = ks ∧ ∀ p ∈ ps, SqT K H p.1 (p.2.map V.int)
  | [], vs, ks, y, e => by
    cases (show some ([] : List (List Int)) = some ks from e)
    exact ⟨[], y.of_nil, rfl, by simp⟩
  | d :: ds, vs, ks, y, e => by
    obtain ⟨v, w, rfl, ry, ys⟩ := y.of_cons
    unfold intsOfT at e
    split at e
    · rename_i q; cases q
    · rename_i ts r' q
      cases q
      split at e
      · rename_i k ks' e1 e2
        cases e
        obtain ⟨a, us, rfl, ea, yt⟩ := tup_ok ry
        obtain ⟨ps, e3, e4, e5⟩ := intsOfT_ok ys e2
        have e6 : us = k.map V.int := intsOf_ok yt e1
        refine ⟨(a, k) :: ps, by rw [e3]; rfl, by rw [← e4]; rfl, fun p hp => ?_⟩
        rcases List.mem_cons.mp hp with z | z
        · rw [z]; exact .inl (.inl (by rw [ea, e6]))
        · exact e5 p z
      · cases e
    · cases e
theorem pm_lenSet {a : Expr} {f : ME} {p p2 pos pos2 : Pos} (hc : X.calm = true) (hu : X.A.units + 65 < cLine) (ha : PM X W a f) (hm : X.mg "len" = none) (hm2 : X.mg "set" = none) (hg : Gl X "len" := by rfl) (hg2 : Gl X "set" := by rfl)
    (na : starEach [a] X.env = (false, eval a X.env) :: starEach [] X.env := by rfl) : PM X W (.Call (.Name "len" p) [.Call (.Name "set" p2) [a] [] pos2] [] pos) (E1 lenSetF f) := by
  refine ⟨(pe_lenT hc hu hg hm hg2 hm2 ha.pe na).imp fun σ H Q ⟨r, h, m, x, w⟩ => ?_⟩
  unfold E1 at w
  refine ⟨r, h, m, x, (Wg.bind (RR0 := RRv X.K) w).imp fun v H1 ⟨r1, h1, d, hr1, p1, rd, _, w1⟩ => ?_⟩
  unfold lenSetF at w1
  split at w1
  · rename_i ks e
    split at w1
    · rename_i hl
      obtain ⟨ys, el, ep⟩ := Option.bind_eq_some_iff.mp e
      obtain ⟨l, us, rfl, ea, yl⟩ := lstOf_ok hr1 rd el
      obtain ⟨ps, rfl, rfl, hk⟩ := intsOfT_ok yl ep
      rw [List.length_map] at hl w1
      exact ⟨l, ps, rfl, .inl (.inl ea), hk, hl.1, hl.2, w1 r1 H1 _ hr1 .refl rv_int⟩
    · exact w1.elim
  · exact w1.elim

/-! ### t.index(x) -/
def rIndexT (K : PySem.W.Frag) : V → List V → Hp → VK → Prop := fun x xs H Q => ∃ (a : Addr) (y : V) (d : PyData) (ds : List PyData) (j : Nat) (z : PyData), x = V.ref a ∧ xs = [y] ∧ Dp K H (V.ref a) (.tuple ds) ∧ Dp K H y d ∧
  PyData.canLayAll0 ds = true ∧ SeqAt.shaped d = true ∧ ds[j]? = some z ∧ PyData.eqv z d = true ∧ (∀ (m : Nat) (z' : PyData), m < j → ds[m]? = some z' → PyData.eqv z' d = false) ∧ Q (.int (j : Nat)) H
theorem mt_indexT (hu : X.A.units + 65 < cLine) : MtR X "tuple.index" (rIndexT X.K) := by
  intro pins s σ H x xs v us Q I rx rxs h
  obtain ⟨a, y, d, ds, j, z, rfl, rfl, hl, hy, sl, sd, hz, hzj, hno, q⟩ := h
  cases rx
  obtain ⟨uy, rfl, ry⟩ := rxs.one
  obtain ⟨bs, r1⟩ := Dp.reads I d y uy hy ry
  have hroom : X.A.units + 1 + min (PyData.depthAll ds) d.depth < cLine := room_in_shaped sd hu
  cases hl with
  | tup hs ha =>
    obtain ⟨its, rv, ⟨⟨cls, dd, data, sls⟩, ho, hc, n, hdt⟩, hlen⟩ := I.tuple hs
    simp only at hc hdt
    subst hc hdt
    obtain ⟨as, h4⟩ := Dp.readsAll I ds _ its ha rv
    have hn : its.length = ds.length := SeqAt.ReadsAll.length ds its as h4
    have hmap : its.map (SeqAt.readOf s.heap) = ds := SeqAt.readsAll_map ds its as sl h4
    obtain ⟨hjd, _⟩ := List.getElem?_eq_some_iff.mp hz
    have hj : j < its.toArray.size := by rw [List.size_toArray]; omega
    have at_ : ∀ (m : Nat) (hm : m < its.toArray.size) (z' : PyData), ds[m]? = some z' → SeqAt.readOf s.heap its.toArray[m] = z' := by
      intro m hm z' hz'
      have hml : m < its.length := by rw [List.size_toArray] at hm; exact hm
      rw [← hmap, List.getElem?_map, List.getElem?_eq_getElem hml] at hz'
      simpa using Option.some.inj hz'
    refine call_meets PySem.F.slot_tuple_index ⟨_, ho, rfl⟩ PySem.F.entry_tuple_index (PySem.F.args_tuple_index_2 _ _)
      (TI.tuple_indexAt a its.toArray n dd sls uy (fun u => PyData.eqv (SeqAt.readOf s.heap u) d) j hj (by show PyData.eqv (SeqAt.readOf s.heap its.toArray[j]) d = true; rw [at_ j hj z hz]; exact hzj) fun m hm hmj => ?_)
      ⟨ho, SeqAt.items_eqAt (vs := its.toArray) (show ReadsAll s.heap its.toArray.toList ds as from h4) r1 sl (SeqAt.canLay_of_shaped sd) hroom, ⟨.int (j : Nat), H, I.tok _, ⟨_, rfl⟩, q⟩⟩
    have hmd : m < ds.length := by omega
    show PyData.eqv (SeqAt.readOf s.heap its.toArray[m]) d = false
    rw [at_ m hm _ (List.getElem?_eq_getElem hmd)]
    exact hno m _ hmj (List.getElem?_eq_getElem hmd)
def idxOf (x : D) : List D → Option Nat
  | [] => none
  | y :: r => if eqD y x = true then some 0 else (idxOf x r).map (· + 1)
def E_indexT (fo fa : ME) : ME := fun m h => (fo m h).bind fun x h1 => match x with
  | .tup xs => (fa m h1).bind fun y h2 => if okD 60 y = true ∧ okD 60 (.tup xs) = true then (match idxOf y xs with | some j => .ok (.int j) h2 | none => .stuck) else .stuck
  | _ => .stuck
theorem idxOf_ok {n k : Nat} {y : D} (gy : okD n y = true) : ∀ {xs : List D} {j : Nat}, okDs k xs = true → idxOf y xs = some j → (∃ z, (toPs xs)[j]? = some z ∧ PyData.eqv z (toP y) = true) ∧ ∀ (m : Nat) (z' : PyData), m < j → (toPs xs)[m]? = some z' → PyData.eqv z' (toP y) = false
  | [], j, _, e => by cases (show none = some j from e)
  | x :: xs, j, g, e => by
    simp only [okDs, Bool.and_eq_true] at g
    unfold idxOf at e
    split at e
    · rename_i c
      cases e
      exact ⟨⟨toP x, by simp [toPs], by rw [eqv_eqD g.1 gy]; exact c⟩, fun m z' hm => absurd hm (Nat.not_lt_zero m)⟩
    · rename_i c
      obtain ⟨i, ei, rfl⟩ := Option.map_eq_some_iff.mp e
      obtain ⟨⟨z, h1, h2⟩, h3⟩ := idxOf_ok gy g.2 ei
      refine ⟨⟨z, by simpa [toPs] using h1, h2⟩, fun m z' hm hz => ?_⟩
      cases m with
      | zero =>
        simp only [toPs, List.getElem?_cons_zero, Option.some.injEq] at hz
        subst hz
        rw [eqv_eqD g.1 gy]
        simpa using c
      | succ m => exact h3 m z' (by omega) (by simpa [toPs] using hz)
end
end Mi

/-! Mi16: sets of ints from a list or a tuple, sorted sets of tuples, keywords in any order, defaults. -/
namespace Mi
open PySem PySem.Spec PyProof.Rows L2
/-! ### set(ints): from a list or a tuple -/
def rSetIS (K : PySem.W.Frag) (w : World) : List V → Hp → VK → Prop := fun xs H Q => ∃ (l : Addr) (ns : List Int), xs = [V.ref l] ∧ (SqL K H l (ns.map V.int) ∨ SqT K H l (ns.map V.int)) ∧ ns.length < 64 ∧
  ∀ p, H p = none → Q (.ref p) (upd H p (SetO w p (fun j => decide (j ∈ ns)) (sortDedup ns).length))
theorem nodup_of_pw {l : List Int} (h : l.Pairwise (· < ·)) : l.Nodup := h.imp fun {a b} hab e => by omega
theorem setR_count {w : World} {h : Heap} {a : Addr} {ns : List Int} {c : Nat} (R : SetR w h a (fun j => decide (j ∈ ns)) c) : c = (sortDedup ns).length := by
  obtain ⟨o, es, ep, t, _, _, _, _, nd, hm, _, _, hn, _⟩ := R
  have pm : (es.toList.map L2.keyOf).Perm (sortDedup ns) := by
    rw [List.perm_ext_iff_of_nodup nd (nodup_of_pw (sortDedup_pw ns))]
    intro k
    rw [← hm k, mem_sortDedup, decide_eq_true_eq]
  have := pm.length_eq
  rw [List.length_map, Array.length_toList] at this
  omega
section
variable {X : Cx} {W : Wish}
theorem cr_setA (hc : X.calm = true) : CallR X (.type "set") (rSetIS X.K X.w) := by
  intro pins s σ H xs us Q I r h
  obtain ⟨l, ns, rfl, hl, hf, q⟩ := h
  rw [Vals.ref1 r]
  have hn : H s.heap.objs.size = none := I.hok.fresh (Nat.le_refl _)
  have fin : ∀ (h' : Heap) (tk c : Nat), SetR X.w h' s.heap.objs.size (fun j => decide (j ∈ ns)) c → c ≤ ns.length → (∀ b o, s.heap.get? b = some o → h'.get? b = some o) → EP X pins σ Q (.ref s.heap.objs.size) { s with heap := h', toks := tk } := fun h' tk c R hcn k => by
    rw [setR_count R] at R
    exact ⟨.ref s.heap.objs.size, _, I.laid (t' := tk) k (Nat.le_refl _) (setO_new R), rfl, q _ hn⟩
  rcases hl with hl | hl
  · obtain ⟨its, rv, pl, hz⟩ := I.list hl
    exact call_set_lst (P := X.prog) (w := X.w) ns (I.ok.hd hc) pl.isList (ints_of_vals rv) (by unfold scanBound; omega) fin
  · obtain ⟨its, rv, pt, hz⟩ := I.tuple hl
    exact call_set_tupI (P := X.prog) (w := X.w) ns (I.ok.hd hc) (show s.heap.IsTuple l its.toArray from pt) (ints_of_vals rv) (by unfold scanBound; omega) fin
/-- the ints of a list or a tuple -/
def seqInts (h : Cells) (d : D) : Option (List Int) := (seqOf h d).bind intsOf
theorem seqInts_ok {K : PySem.W.Frag} {r : Rm} {h : Cells} {H : Hp} {d : D} {v : V} {ns : List Int} (hr : HRel K r h H) (rv : RV K r h H d v) (e : seqInts h d = some ns) : ∃ a, v = .ref a ∧ (SqL K H a (ns.map V.int) ∨ SqT K H a (ns.map V.int)) := by
  obtain ⟨ys, e1, e2⟩ := Option.bind_eq_some_iff.mp e
  obtain ⟨a, vs, rfl, q, y⟩ := seqOf_ok hr rv e1
  rw [intsOf_ok y e2] at q
  rcases q with q | q
  · exact ⟨a, rfl, .inl (.inl (.inl q))⟩
  · exact ⟨a, rfl, .inr (.inl (.inl q))⟩
def sortSetI (lv : Bool) (d : D) (h : Cells) : Res D := match seqInts h d with
  | some ns => if ns.length < 64 then alloc lv (.lst ((sortDedup ns).map D.int)) h else .stuck
  | none => .stuck
def lenSetI (d : D) (h : Cells) : Res D := match seqInts h d with
  | some ns => if ns.length < 64 then .ok (.int (sortDedup ns).length) h else .stuck
  | none => .stuck
theorem sortDedup_len : ∀ ns : List Int, (sortDedup ns).length ≤ ns.length
  | [] => Nat.le_refl _
  | n :: ns => by
    have h := sortDedup_len ns
    have : ∀ (x : Int) (l : List Int), (insI x l).length ≤ l.length + 1 := by
      intro x l
      induction l with
      | nil => simp [insI]
      | cons y r ih =>
        unfold insI
        split
        · simp
        · split
          · simp
          · simp only [List.length_cons]; omega
    have := this n (sortDedup ns)
    show (insI n (sortDedup ns)).length ≤ ns.length + 1
    omega
theorem pm_sortSetI {a : Expr} {f : ME} {p p2 pos pos2 : Pos} (lv : Bool) (hc : X.calm = true) (hu : X.A.units + 65 < cLine) (ha : PM X W a f) (hm : X.mg "sorted" = none) (hm2 : X.mg "set" = none) (hg : Gl X "sorted" := by rfl) (hg2 : Gl X "set" := by rfl)
    (na : starEach [a] X.env = (false, eval a X.env) :: starEach [] X.env := by rfl) (na2 : starEach [.Call (.Name "set" p2) [a] [] pos2] X.env = (false, eval (.Call (.Name "set" p2) [a] [] pos2) X.env) :: starEach [] X.env := by rfl) :
    PM X W (.Call (.Name "sorted" p) [.Call (.Name "set" p2) [a] [] pos2] [] pos) (E1 (sortSetI lv) f) := by
  have h1 := pe_callTy (pos := pos2) (p := p2) (cr_setA hc) hg2 hm2 PyProof.Rows.boot_set (pa_cons ha.pe pa_nil na) (by decide) (by decide) na rfl
  refine ⟨(pe_callB (cr_sortedSet hc) hg hm (by decide +kernel) (pa_cons h1 pa_nil na2) (by decide) (by decide) na2 rfl).imp fun σ H Q ⟨r, h, m, x, w⟩ => ?_⟩
  unfold E1 at w
  refine ⟨r, h, m, x, (Wg.bind (RR0 := RRv X.K) w).imp fun v H1 ⟨r1, h1, d, hr1, p1, rd, _, w1⟩ => ?_⟩
  unfold sortSetI at w1
  split at w1
  · rename_i ns e
    split at w1
    · rename_i hl
      obtain ⟨l, rfl, el⟩ := seqInts_ok hr1 rd e
      have := sortDedup_len ns
      refine ⟨l, ns, rfl, el, hl, fun q hq => ⟨q, _, _, rfl, upd_same, by omega, fun out t pw mm len ht => ?_⟩⟩
      have eo : out = sortDedup ns := sorted_unique pw (sortDedup_pw ns) fun k => by rw [mm k, mem_sortDedup, decide_eq_true_eq]
      subst eo
      exact alloc_lst (hr1.new hq) (rvs_ints _) (w1.post (Post.new hr1 hq)) t ht
    · exact w1.elim
  · exact w1.elim
def rLenO (w : World) : List V → Hp → VK → Prop := fun xs H Q => ∃ (a : Addr) (S : Int → Bool) (n : Nat), xs = [V.ref a] ∧ H a = some (SetO w a S n) ∧ Q (.int n) H
theorem cr_lenO : CallR X (.builtin "len") (rLenO X.w) := by
  intro pins s σ H xs us Q I r h
  obtain ⟨a, S, n, rfl, ha, q⟩ := h
  rw [Vals.ref1 r]
  obtain ⟨o, es, ep, t, ho, hex, hd, _, _, _, hb, hf, hn, _⟩ := setO_get I ha
  exact call_len_set ho hex hd hf (by unfold scanBound at hb; omega) ⟨.int n, H, I.tok _, ⟨_, by rw [hn]⟩, q⟩
theorem pm_lenSetI {a : Expr} {f : ME} {p p2 pos pos2 : Pos} (hc : X.calm = true) (hu : X.A.units + 65 < cLine) (ha : PM X W a f) (hm : X.mg "len" = none) (hm2 : X.mg "set" = none) (hg : Gl X "len" := by rfl) (hg2 : Gl X "set" := by rfl)
    (na : starEach [a] X.env = (false, eval a X.env) :: starEach [] X.env := by rfl) (na2 : starEach [.Call (.Name "set" p2) [a] [] pos2] X.env = (false, eval (.Call (.Name "set" p2) [a] [] pos2) X.env) :: starEach [] X.env := by rfl) :
    PM X W (.Call (.Name "len" p) [.Call (.Name "set" p2) [a] [] pos2] [] pos) (E1 lenSetI f) := by
  have h1 := pe_callTy (pos := pos2) (p := p2) (cr_setA hc) hg2 hm2 PyProof.Rows.boot_set (pa_cons ha.pe pa_nil na) (by decide) (by decide) na rfl
  refine ⟨(pe_callB cr_lenO hg hm PySem.boot_len (pa_cons h1 pa_nil na2) (by decide) (by decide) na2 rfl).imp fun σ H Q ⟨r, h, m, x, w⟩ => ?_⟩
  unfold E1 at w
  refine ⟨r, h, m, x, (Wg.bind (RR0 := RRv X.K) w).imp fun v H1 ⟨r1, h1, d, hr1, p1, rd, _, w1⟩ => ?_⟩
  unfold lenSetI at w1
  split at w1
  · rename_i ns e
    split at w1
    · rename_i hl
      obtain ⟨l, rfl, el⟩ := seqInts_ok hr1 rd e
      exact ⟨l, ns, rfl, el, hl, fun q hq => ⟨q, _, _, rfl, upd_same, w1 r1 _ _ (hr1.new hq) (Post.new hr1 hq) rv_int⟩⟩
    · exact w1.elim
  · exact w1.elim
end

/-! ### sorted(set(tuples of ints)) -/
def insC (B : Int) (x : List Int) : List (List Int) → List (List Int)
  | [] => [x]
  | y :: r => if TS.code B x < TS.code B y then x :: y :: r else if TS.code B x = TS.code B y then y :: r else y :: insC B x r
def sortDedupT (B : Int) (ks : List (List Int)) : List (List Int) := ks.foldr (insC B) []
theorem code_inj {B : Int} : ∀ {a b : List Int}, a.length = b.length → TS.Bd B a → TS.Bd B b → TS.code B a = TS.code B b → a = b
  | [], [], _, _, _, _ => rfl
  | [], _ :: _, h, _, _, _ => by simp at h
  | _ :: _, [], h, _, _, _ => by simp at h
  | x :: a, y :: b, h, ha, hb, e => by
    have hl : a.length = b.length := by simpa using h
    rcases Int.lt_trichotomy x y with c | c | c
    · have := TS.code_lt hl ha.tail hb.tail c; omega
    · subst c
      have : TS.code B a = TS.code B b := by
        unfold TS.code at e
        rw [hl] at e
        omega
      rw [code_inj hl ha.tail hb.tail this]
    · have := TS.code_lt hl.symm hb.tail ha.tail c; omega
section
variable {B : Int} {d : Nat}
def GoodT (B : Int) (d : Nat) (k : List Int) : Prop := k.length = d ∧ TS.Bd B k
theorem GoodT.inj {a b : List Int} (ha : GoodT B d a) (hb : GoodT B d b) (e : TS.code B a = TS.code B b) : a = b := code_inj (ha.1.trans hb.1.symm) ha.2 hb.2 e
theorem insC_sub {x : List Int} : ∀ {l : List (List Int)} {k : List Int}, k ∈ insC B x l → k = x ∨ k ∈ l
  | [], k, h => by simp [insC] at h; exact .inl h
  | y :: r, k, h => by
    unfold insC at h
    split at h
    · simpa using h
    · split at h
      · exact .inr h
      · rcases List.mem_cons.mp h with e | e
        · exact .inr (by rw [e]; exact List.mem_cons_self)
        · rcases insC_sub e with e | e
          · exact .inl e
          · exact .inr (List.mem_cons_of_mem _ e)
theorem insC_mem {x : List Int} (hx : GoodT B d x) : ∀ {l : List (List Int)} {k : List Int}, (∀ y ∈ l, GoodT B d y) → (k = x ∨ k ∈ l) → k ∈ insC B x l
  | [], k, _, h => by simp [insC]; simpa using h
  | y :: r, k, g, h => by
    unfold insC
    split
    · simpa using h
    · split
      · rename_i e
        rcases h with h | h
        · rw [h, hx.inj (g y List.mem_cons_self) e]; exact List.mem_cons_self
        · exact h
      · rcases h with h | h
        · exact List.mem_cons_of_mem _ (insC_mem hx (fun z hz => g z (List.mem_cons_of_mem _ hz)) (.inl h))
        · rcases List.mem_cons.mp h with e | e
          · rw [e]; exact List.mem_cons_self
          · exact List.mem_cons_of_mem _ (insC_mem hx (fun z hz => g z (List.mem_cons_of_mem _ hz)) (.inr e))
theorem insC_pw {x : List Int} : ∀ {l : List (List Int)}, l.Pairwise (fun a b => TS.code B a < TS.code B b) → (insC B x l).Pairwise (fun a b => TS.code B a < TS.code B b)
  | [], _ => by simp [insC]
  | y :: r, h => by
    obtain ⟨h1, h2⟩ := List.pairwise_cons.mp h
    unfold insC
    split
    · rename_i c
      refine List.pairwise_cons.mpr ⟨fun z hz => ?_, h⟩
      rcases List.mem_cons.mp hz with e | e
      · rw [e]; exact c
      · exact Int.lt_trans c (h1 z e)
    · split
      · exact h
      · refine List.pairwise_cons.mpr ⟨fun z hz => ?_, insC_pw h2⟩
        rcases insC_sub hz with e | e
        · rw [e]; omega
        · exact h1 z e
theorem sortDedupT_good : ∀ {ks : List (List Int)}, (∀ k ∈ ks, GoodT B d k) → (∀ k, k ∈ sortDedupT B ks ↔ k ∈ ks) ∧ (sortDedupT B ks).Pairwise (fun a b => TS.code B a < TS.code B b)
  | [], _ => ⟨fun k => by simp [sortDedupT], List.Pairwise.nil⟩
  | x :: ks, g => by
    obtain ⟨h1, h2⟩ := sortDedupT_good (ks := ks) fun k hk => g k (List.mem_cons_of_mem _ hk)
    refine ⟨fun k => ?_, insC_pw h2⟩
    show k ∈ insC B x (sortDedupT B ks) ↔ _
    rw [List.mem_cons]
    constructor
    · intro h
      rcases insC_sub h with e | e
      · exact .inl e
      · exact .inr ((h1 k).mp e)
    · intro h
      refine insC_mem (g x List.mem_cons_self) (fun y hy => g y (List.mem_cons_of_mem _ ((h1 y).mp hy))) ?_
      rcases h with e | e
      · exact .inl e
      · exact .inr ((h1 k).mpr e)
theorem codes_unique : ∀ {a b : List (List Int)}, (∀ k ∈ a, GoodT B d k) → (∀ k ∈ b, GoodT B d k) → a.Pairwise (fun a b => TS.code B a < TS.code B b) → b.Pairwise (fun a b => TS.code B a < TS.code B b) → (∀ k, k ∈ a ↔ k ∈ b) → a = b
  | [], [], _, _, _, _, _ => rfl
  | [], y :: b, _, _, _, _, h => by have := (h y).mpr List.mem_cons_self; simp at this
  | x :: a, [], _, _, _, _, h => by have := (h x).mp List.mem_cons_self; simp at this
  | x :: a, y :: b, ga, gb, ha, hb, h => by
    obtain ⟨ha1, ha2⟩ := List.pairwise_cons.mp ha
    obtain ⟨hb1, hb2⟩ := List.pairwise_cons.mp hb
    have exy : x = y := by
      rcases List.mem_cons.mp ((h x).mp List.mem_cons_self) with e | e
      · exact e
      · rcases List.mem_cons.mp ((h y).mpr List.mem_cons_self) with e' | e'
        · exact e'.symm
        · have := hb1 x e; have := ha1 y e'; omega
    subst exy
    rw [codes_unique (fun k hk => ga k (List.mem_cons_of_mem _ hk)) (fun k hk => gb k (List.mem_cons_of_mem _ hk)) ha2 hb2 fun k => ?_]
    constructor
    · intro hk
      rcases List.mem_cons.mp ((h k).mp (List.mem_cons_of_mem _ hk)) with e | e
      · have := ha1 k hk; rw [e] at this; omega
      · exact e
    · intro hk
      rcases List.mem_cons.mp ((h k).mpr (List.mem_cons_of_mem _ hk)) with e | e
      · have := hb1 k hk; rw [e] at this; omega
      · exact e
end
/-- all of one length from 1 on, of numbers from 0 on below B -/
def goodTs (B : Int) (ks : List (List Int)) : Bool := match ks with
  | [] => true
  | k :: _ => decide (1 ≤ k.length) && ks.all fun x => decide (x.length = k.length) && x.all fun m => decide (0 ≤ m ∧ m < B)
def bigB : Int := 1000000
def sortSetT (lv : Bool) (d : D) (h : Cells) : Res D := match (lstOf h d).bind intsOfT with
  | some ks => if ks.length < 64 ∧ goodTs bigB ks = true then alloc lv (.lst ((sortDedupT bigB ks).map fun k => .tup (k.map D.int))) h else .stuck
  | none => .stuck
theorem goodTs_ok {B : Int} {ks : List (List Int)} (g : goodTs B ks = true) : ∃ d, 1 ≤ d ∧ ∀ k ∈ ks, GoodT B d k := by
  unfold goodTs at g
  split at g
  · exact ⟨1, Nat.le_refl _, fun x hx => by cases hx⟩
  · rename_i k r
    simp only [Bool.and_eq_true, decide_eq_true_eq, List.all_eq_true] at g
    exact ⟨k.length, g.1, fun x hx => ⟨(g.2 x hx).1, fun m hm => (g.2 x hx).2 m hm⟩⟩
section
variable {X : Cx} {W : Wish}
theorem rvs_tups {K : PySem.W.Frag} {r : Rm} {h : Cells} {H : Hp} : ∀ {L : List (Addr × List Int)}, (∀ p ∈ L, H p.1 = some (.tup (p.2.map V.int))) → RVs K r h H (L.map fun p => .tup (p.2.map D.int)) (L.map fun p => V.ref p.1)
  | [], _ => RVs.nil
  | p :: L, g => RVs.cons (by simp only [RV]; exact ⟨p.1, _, rfl, g p List.mem_cons_self, rvs_ints _⟩) (rvs_tups fun q hq => g q (List.mem_cons_of_mem _ hq))
theorem intsOfT_at {K : PySem.W.Frag} {r : Rm} {h : Cells} {H : Hp} : ∀ {ds : List D} {vs : List V} {ks : List (List Int)}, RVs K r h H ds vs → intsOfT ds = some ks → ∃ ps : List (Addr × List Int), vs = ps.map (fun p => V.ref p.1) ∧ ps.map (·.2) = ks ∧ ∀ p ∈ ps, H p.1 = some (.tup (p.2.map V.int))
  | [], vs, ks, y, e => by
    cases (show some ([] : List (List Int)) = some ks from e)
    exact ⟨[], y.of_nil, rfl, by simp⟩
  | d :: ds, vs, ks, y, e => by
    obtain ⟨v, w, rfl, ry, ys⟩ := y.of_cons
    unfold intsOfT at e
    split at e
    · rename_i q; cases q
    · rename_i ts r' q
      cases q
      split at e
      · rename_i k ks' e1 e2
        cases e
        obtain ⟨a, us, rfl, ea, yt⟩ := tup_ok ry
        obtain ⟨ps, e3, e4, e5⟩ := intsOfT_at ys e2
        refine ⟨(a, k) :: ps, by rw [e3]; rfl, by rw [← e4]; rfl, fun p hp => ?_⟩
        rcases List.mem_cons.mp hp with z | z
        · rw [z, ea, intsOf_ok yt e1]
        · exact e5 p z
      · cases e
    · cases e
theorem pm_sortSetT {a : Expr} {f : ME} {p p2 pos pos2 : Pos} (lv : Bool) (hc : X.calm = true) (hu : X.A.units + 65 < cLine) (ha : PM X W a f) (hm : X.mg "sorted" = none) (hm2 : X.mg "set" = none) (hg : Gl X "sorted" := by rfl) (hg2 : Gl X "set" := by rfl)
    (na : starEach [a] X.env = (false, eval a X.env) :: starEach [] X.env := by rfl) (na2 : starEach [.Call (.Name "set" p2) [a] [] pos2] X.env = (false, eval (.Call (.Name "set" p2) [a] [] pos2) X.env) :: starEach [] X.env := by rfl) :
    PM X W (.Call (.Name "sorted" p) [.Call (.Name "set" p2) [a] [] pos2] [] pos) (E1 (sortSetT lv) f) := by
  have h1 := pe_callTy (pos := pos2) (p := p2) (cr_setOfT hc (by omega)) hg2 hm2 PyProof.Rows.boot_set (pa_cons ha.pe pa_nil na) (by decide) (by decide) na rfl
  refine ⟨(pe_callB (cr_sortedT hc) hg hm (by decide +kernel) (pa_cons h1 pa_nil na2) (by decide) (by decide) na2 rfl).imp fun σ H Q ⟨r, h, m, x, w⟩ => ?_⟩
  unfold E1 at w
  refine ⟨r, h, m, x, (Wg.bind (RR0 := RRv X.K) w).imp fun v H1 ⟨r1, h1, d, hr1, p1, rd, _, w1⟩ => ?_⟩
  unfold sortSetT at w1
  split at w1
  case h_2 => exact w1.elim
  rename_i ks e
  split at w1
  case isFalse => exact w1.elim
  rename_i g
  obtain ⟨ys, el, ep⟩ := Option.bind_eq_some_iff.mp e
  obtain ⟨l, us, rfl, ea, yl⟩ := lstOf_ok hr1 rd el
  obtain ⟨ps, rfl, rfl, hk⟩ := intsOfT_at yl ep
  obtain ⟨dd, hd1, gd⟩ := goodTs_ok g.2
  have hlen : ps.length < 64 := by simpa using g.1
  refine ⟨l, ps, rfl, .inl (.inl ea), fun p hp => .inl (.inl (hk p hp)), hlen, fun q L hq sub all => ?_⟩
  have keep : ∀ b o, H1 b = some o → (upd H1 q (SetTO X.prog X.w q L)) b = some o := fun b o eb => by rw [upd_ne (ne_of_none eb hq)]; exact eb
  refine ⟨q, L, dd, bigB, rfl, upd_same, fun p hp => .inl (.inl (keep _ _ (hk p (sub p hp)))), hd1, fun p hp => gd p.2 (List.mem_map_of_mem (sub p hp)), fun L' t pm nd _ pw ht => ?_⟩
  have sub' : ∀ p ∈ L', p ∈ ps := fun p hp => sub p (pm.mem_iff.mp hp)
  have goodL : ∀ k ∈ L'.map (·.2), GoodT bigB dd k := fun k hk' => by
    obtain ⟨p, hp, rfl⟩ := List.mem_map.mp hk'
    exact gd p.2 (List.mem_map_of_mem (sub' p hp))
  obtain ⟨m1, m2⟩ := sortDedupT_good gd
  have eo : L'.map (·.2) = sortDedupT bigB (ps.map (·.2)) := by
    refine codes_unique goodL (fun k hk' => gd k ((m1 k).mp hk')) ?_ m2 fun k => ?_
    · rw [List.pairwise_map]
      have nd2 : L'.Pairwise (fun a b => a.2 ≠ b.2) := by rw [List.Nodup, List.pairwise_map] at nd; exact nd
      refine (pw.and nd2).imp_of_mem fun {a b} ha hb hab => ?_
      have g1 := goodL a.2 (List.mem_map_of_mem ha)
      have g2 := goodL b.2 (List.mem_map_of_mem hb)
      rcases Int.lt_or_eq_of_le hab.1 with c | c
      · exact c
      · exact absurd (g1.inj g2 c) hab.2
    · rw [m1 k]
      constructor
      · intro hk'
        obtain ⟨p, hp, rfl⟩ := List.mem_map.mp hk'
        exact List.mem_map_of_mem (sub' p hp)
      · intro hk'
        obtain ⟨p, hp, rfl⟩ := List.mem_map.mp hk'
        obtain ⟨z, hz, ez⟩ := List.mem_map.mp (all p hp)
        exact List.mem_map.mpr ⟨z, pm.mem_iff.mpr hz, ez⟩
  have y2 : RVs X.K r1 h1 (upd H1 q (SetTO X.prog X.w q L)) ((sortDedupT bigB (ps.map (·.2))).map fun k => .tup (k.map D.int)) (L'.map fun p => V.ref p.1) := by
    rw [← eo, List.map_map]
    exact rvs_tups fun p hp => keep _ _ (hk p (sub' p hp))
  exact alloc_lst (hr1.new hq) y2 (w1.post (Post.new hr1 hq)) t ht
end
end Mi

/-! Mi17: what the top has written; the law's own head. -/
namespace Mi
open PySem PySem.Spec PyProof.Rows L2
/-- the def st stands behind the top under its name -/
structure HasDef (K : PySem.W.Frag) (x : Str) (st : Stmt) (dV : Value) (f : Addr) : Prop where
  ex : ∃ (oc : Value) (od : Option Addr) (kV doc pm : Value) (an : Option Addr) (cdv ct : Value) (osl : Array (Option Value)),
    K.lookup f = some ⟨oc, od, .func (PySem.W.fnOf x x (C8.fnArgs st) (C8.fnBody st) (C8.fnScope st) dV kV doc pm an cdv ct), osl⟩ ∧ PySem.W.codeIn K cdv x = true
  ns : PySem.W.nsIn K mainGlobals x = some (some (.ref f))
  kp : PySem.W.keepIn K (.ref f) = true
theorem HasDef.mk' {K : PySem.W.Frag} {x : Str} {st : Stmt} {dV : Value} {f : Addr} {oc : Value} {od : Option Addr} {kV doc pm : Value} {an : Option Addr} {cdv ct : Value} {osl : Array (Option Value)} (a : PySem.W.nsIn K mainGlobals x = some (some (.ref f)))
    (l : K.lookup f = some ⟨oc, od, .func (PySem.W.fnOf x x (C8.fnArgs st) (C8.fnBody st) (C8.fnScope st) dV kV doc pm an cdv ct), osl⟩) (c : PySem.W.codeIn K cdv x = true) (k : PySem.W.keepIn K (.ref f) = true) : HasDef K x st dV f :=
  ⟨⟨oc, od, kV, doc, pm, an, cdv, ct, osl, l, c⟩, a, k⟩
section
variable {K : PySem.W.Frag} {x : Str} {st : Stmt} {dV : Value} {f : Addr} {h : Heap} {mg : Str → Option Value}
theorem HasDef.get (d : HasDef K x st dV f) (X : K.In h) (G : h.Ns mainGlobals mg) : ∃ (kV doc pm : Value) (an : Option Addr) (cdv ct : Value), C8.Def K mg x st f (PySem.W.fnOf x x (C8.fnArgs st) (C8.fnBody st) (C8.fnScope st) dV kV doc pm an cdv ct) := by
  obtain ⟨oc, od, kV, doc, pm, an, cdv, ct, osl, l, c⟩ := d.ex
  exact ⟨kV, doc, pm, an, cdv, ct, ⟨⟨oc, od, dV, kV, doc, pm, an, cdv, ct, osl, rfl, l, c⟩⟩, PySem.W.mg_of X G d.ns, d.kp⟩
end
theorem bindsK_of {fd : FuncData} {ks ps : List Str} {π : List Nat} (h : ∀ ws : List Value, ws.length = ks.length → bindArgs fd ⟨[], ks.zip ws⟩ = pure (ps.zip (permL π ws))) : BindsK fd ks ps π := fun s ws hl => .of_eq (h ws hl)
/-- one default, or more: a tuple of them -/
theorem bindsD_of {K : PySem.W.Frag} {x : Str} {st : Stmt} {T : Addr} {kV doc pm : Value} {an : Option Addr} {cdv ct : Value} {o : Obj} {its : List Value} {n : Nat} {dvs : List V} {ps : List Str} (m : Nat) (lT : K.lookup T = some o) (oT : o.data = .seq its.toArray n) (r : Vals dvs its) (hn : m + dvs.length = ps.length)
    (h : ∀ us : List Value, us.length = m → ∃ k, bindArgs (PySem.W.fnOf x x (C8.fnArgs st) (C8.fnBody st) (C8.fnScope st) (.ref T) kV doc pm an cdv ct) ⟨us, []⟩ = seqItems? (.ref T) >>= k ∧ k (some its.toArray) = pure (ps.zip (us ++ its))) :
    ∃ ds, Vals dvs ds ∧ Binds K (PySem.W.fnOf x x (C8.fnArgs st) (C8.fnBody st) (C8.fnScope st) (.ref T) kV doc pm an cdv ct) ps ds := by
  refine ⟨its, r, fun s us X hlen => ?_⟩
  have l1 : its.length = dvs.length := r.length.symm
  have l2 : us.length = m := by
    rw [List.length_append, l1] at hlen
    omega
  obtain ⟨k, e1, e2⟩ := h us l2
  refine BindsTo.of_looks fun M => ?_
  rw [e1]
  exact looks_items X lT oT (.of_pure e2)
/-! ### the law -/
def spLaw (K : PySem.W.Frag) : Sp := fun vs H Q _ => ∃ (a : Addr) (ns : List Int), vs = [.ref a] ∧ SqL K H a (ns.map V.int) ∧ ns.length ≤ 63 ∧ ∀ H', Q (.bl true) H'
def rm0 : Rm := ⟨[], [], []⟩
theorem hrel0 {K : PySem.W.Frag} {H : Hp} : HRel K rm0 [] H where
  len := rfl
  nd := List.Pairwise.nil
  un := fun a ha => by cases ha
  bb := fun q hq => by cases hq
  cell := fun n b d e => by simp at e
theorem law_sp {K : PySem.W.Frag} {F : Fn} (h : ∀ ns : List Int, ns.length ≤ 63 → ∃ h', F [.scr (ns.map D.int)] [] = .ok (.bl true) h') (vs : List V) (H : Hp) (Q : VK) (E : XK) (s : spLaw K vs H Q E) : spF K F vs H Q E := by
  obtain ⟨a, ns, rfl, hq, hl, q⟩ := s
  obtain ⟨h', e⟩ := h ns hl
  have nl : ¬ LiveA rm0 [] a := fun l => by
    rcases l with ⟨n, d, e1, _⟩ | l
    · cases e1
    · cases l
  refine ⟨rm0, [], [.scr (ns.map D.int)], hrel0, RVs.cons ?_ RVs.nil, ?_⟩
  · simp only [RV]
    refine ⟨a, _, rfl, ?_, rvs_ints ns⟩
    rcases hq with (hq | ⟨o, hq⟩) | hq
    · exact .inr (.inr ⟨hq, nl⟩)
    · exact .inr (.inl ⟨o, hq, nl⟩)
    · exact .inl hq
  · rw [e]
    intro r' H' b hr p rv
    rw [bl_ok rv]
    exact q H'
end Mi

/-! Mi18: how the combinators compute, for simp. -/
namespace Mi
open PySem PySem.Spec PyProof.Rows L2
@[simp] theorem ofString_eq (a b : String) : (Str.ofString a = Str.ofString b) = (a = b) := by
  apply propext
  constructor
  · intro h
    rw [Str.ofString_eq_toList, Str.ofString_eq_toList] at h
    have h2 : (a.toList.map Char.toNat).toArray = (b.toList.map Char.toNat).toArray := by injection h
    have h3 : a.toList.map Char.toNat = b.toList.map Char.toNat := by simpa using h2
    have inj : ∀ x y : Char, x.toNat = y.toNat → x = y := fun x y e => Char.ext (UInt32.toNat_inj.mp e)
    have h4 : a.toList = b.toList := List.map_inj_right (fun x y e => inj x y e) |>.mp h3
    exact String.toList_inj.mp h4
  · intro h; rw [h]
section
variable {m : Loc} {h : Cells}
@[simp] theorem E_var_ap (i : Nat) : E_var i m h = (match m.v[i]? with | some (some d) => .ok d h | _ => .stuck) := rfl
@[simp] theorem E_frz_ap (i : Nat) : E_frz i m h = (match m.v[i]? with | some (some d) => frzD d h | _ => .stuck) := rfl
@[simp] theorem E_c_ap (d : D) : E_c d m h = .ok d h := rfl
@[simp] theorem E1_ap (g : D → Cells → Res D) (f : ME) : E1 g f m h = (f m h).bind g := rfl
@[simp] theorem E2_ap (g : D → D → Cells → Res D) (f f' : ME) : E2 g f f' m h = (f m h).bind fun x h1 => (f' m h1).bind fun y h2 => g x y h2 := rfl
@[simp] theorem E_T_ap (f : MT) : E_T f m h = (f m h).bind fun b h1 => .ok (.bl b) h1 := rfl
def bD (d : D) (h : Cells) : Res Bool := match d with
  | .bl b => .ok b h
  | _ => .stuck
@[simp] theorem bD_bl (b : Bool) : bD (.bl b) h = .ok b h := rfl
@[simp] theorem T_E_ap (f : ME) : T_E f m h = (f m h).bind bD := by
  unfold T_E
  cases f m h with
  | ok d h1 => cases d <;> rfl
  | exc x h1 => rfl
  | stuck => rfl
@[simp] theorem T_not_ap (f : MT) : T_not f m h = (f m h).bind fun b h1 => .ok (!b) h1 := rfl
@[simp] theorem T_and_ap (f g : MT) : T_and f g m h = (f m h).bind fun b h1 => if b = true then g m h1 else .ok false h1 := rfl
@[simp] theorem T_or_ap (f g : MT) : T_or f g m h = (f m h).bind fun b h1 => if b = true then .ok true h1 else g m h1 := rfl
@[simp] theorem E_not_ap (f : ME) : E_not f m h = (f m h).bind fun d h1 => (bD d h1).bind fun b h2 => .ok (.bl !b) h2 := by
  unfold E_not
  simp only [E_T_ap, T_not_ap, T_E_ap, Res.bind_assoc, Res.bind_ok]
@[simp] theorem E_and_ap (f g : ME) : E_and f g m h = (f m h).bind fun d h1 => (bD d h1).bind fun b h2 => if b = true then g m h2 else .ok (.bl false) h2 := by
  unfold E_and
  simp only [T_E_ap, Res.bind_assoc]
@[simp] theorem E_or_ap (f g : ME) : E_or f g m h = (f m h).bind fun d h1 => (bD d h1).bind fun b h2 => if b = true then .ok (.bl true) h2 else g m h2 := by
  unfold E_or
  simp only [T_E_ap, Res.bind_assoc]
@[simp] theorem E_if_ap (c : MT) (f g : ME) : E_if c f g m h = (c m h).bind fun b h1 => if b = true then f m h1 else g m h1 := rfl
@[simp] theorem T_cmp_ap (g : Cells → D → D → Option Bool) (f f' : ME) : T_cmp g f f' m h = (f m h).bind fun x h1 => (f' m h1).bind fun y h2 => ofOpt (g h2 x y) h2 := rfl
@[simp] theorem E_chain_ap (g g' : Cells → D → D → Option Bool) (f f' f'' : ME) : E_chain g g' f f' f'' m h = (f m h).bind fun x h1 => (f' m h1).bind fun y h2 => (ofOpt (g h2 x y) h2).bind fun k h3 =>
  if k = true then (f'' m h3).bind fun z h4 => (ofOpt (g' h4 y z) h4).bind fun k h5 => .ok (.bl k) h5 else .ok (.bl false) h3 := rfl
@[simp] theorem E_idx_ap (f f' : ME) : E_idx f f' m h = (f m h).bind fun x h1 => (f' m h1).bind fun y h2 => ofOpt (idxD h2 x y) h2 := rfl
@[simp] theorem A_nil_ap : A_nil m h = .ok [] h := rfl
@[simp] theorem A_cons_ap (f : ME) (g : MA) : A_cons f g m h = (f m h).bind fun x h1 => (g m h1).bind fun xs h2 => .ok (x :: xs) h2 := rfl
@[simp] theorem E_tup_ap (g : MA) : E_tup g m h = (g m h).bind fun xs h1 => if xs.length ≤ big then .ok (.tup xs) h1 else .stuck := rfl
@[simp] theorem E_lst_ap (lv : Bool) (g : MA) : E_lst lv g m h = (g m h).bind fun xs h1 => if xs.length ≤ big then Mi.alloc lv (.lst xs) h1 else .stuck := rfl
@[simp] theorem E_fn_ap (g : List D → Cells → Res D) (f : MA) : E_fn g f m h = (f m h).bind g := rfl
@[simp] theorem E_fnD_ap (ex : List D) (g : List D → Cells → Res D) (f : MA) : E_fnD ex g f m h = (f m h).bind fun ds h1 => g (ds ++ ex) h1 := rfl
@[simp] theorem E_isa_ap (T : String) (f : ME) : E_isa T f m h = (f m h).bind fun d h1 => ofOpt ((isaD T (der h1 d)).map D.bl) h1 := rfl
@[simp] theorem E_mtL_ap (gm : Nat → D → List D → Cells → Res D) (f : ME) (g : MA) : E_mtL gm f g m h = (f m h).bind fun x h1 => if (lstOf h1 x).isSome = true then (g m h1).bind fun ds h2 => gm m.base x ds h2 else .stuck := rfl
@[simp] theorem S_nil_ap : S_nil m h = .ok (.nx m) h := rfl
@[simp] theorem S_cons_ap (f g : MS) : S_cons f g m h = (f m h).seq g := rfl
@[simp] theorem S_set_ap (i : Nat) (f : ME) : S_set i f m h = (f m h).bind fun d h1 => .ok (.nx (m.set i d)) h1 := rfl
@[simp] theorem S_asg_ap (f : ME) (g : MG) : S_asg f g m h = (f m h).bind fun d h1 => (g d m h1).bind fun m1 h2 => .ok (.nx m1) h2 := rfl
@[simp] theorem S_ret_ap (f : ME) : S_ret f m h = (f m h).bind fun d h1 => .ok (.rt d) h1 := rfl
@[simp] theorem S_expr_ap (f : ME) : S_expr f m h = (f m h).bind fun _ h1 => .ok (.nx m) h1 := rfl
@[simp] theorem S_if_ap (c : MT) (f g : MS) : S_if c f g m h = (c m h).bind fun b h1 => if b = true then f m h1 else g m h1 := rfl
@[simp] theorem S_pass_ap : S_pass m h = .ok (.nx m) h := rfl
@[simp] theorem S_for_ap (vs : List Nat) (src : MI) (g : MG) (b : MS) : S_for vs src g b m h = (src m h).bind fun ds h1 => forGo vs g b ds m h1 := rfl
@[simp] theorem G_name_ap (i : Nat) (d : D) : G_name i d m h = .ok (m.set i d) h := rfl
@[simp] theorem GS_nil_ap : GS_nil [] m h = .ok m h := rfl
@[simp] theorem GS_cons_ap (g : MG) (gs : MGs) (d : D) (r : List D) : GS_cons g gs (d :: r) m h = (g d m h).bind fun m1 h1 => gs r m1 h1 := rfl
@[simp] theorem G_tup_ap (n : Nat) (gs : MGs) (xs : List D) : G_tup n gs (.tup xs) m h = if xs.length = n then gs xs m h else .stuck := rfl
@[simp] theorem G_sub_ap (f f' : ME) (v : D) : G_sub f f' v m h = (f m h).bind fun o h1 => (f' m h1).bind fun i h2 => (setD m.base o i v h2).bind fun _ h3 => .ok m h3 := rfl
def par2 (i j : Nat) (m : Loc) (ds : List D) (h : Cells) : Res Fl := match ds with | [x, y] => .ok (.nx ((m.set i x).set j y)) h | _ => .stuck
def par3' (i j l : Nat) (m : Loc) (ds : List D) (h : Cells) : Res Fl := match ds with | [x, y, z] => .ok (.nx (((m.set i x).set j y).set l z)) h | _ => .stuck
@[simp] theorem par2_ap (i j : Nat) (x y : D) : par2 i j m [x, y] h = .ok (.nx ((m.set i x).set j y)) h := rfl
@[simp] theorem par3_ap (i j l : Nat) (x y z : D) : par3' i j l m [x, y, z] h = .ok (.nx (((m.set i x).set j y).set l z)) h := rfl
@[simp] theorem S_par_ap (i j : Nat) (f : MA) : S_par i j f m h = (f m h).bind (par2 i j m) := rfl
@[simp] theorem S_par3_ap (i j l : Nat) (f : MA) : S_par3 i j l f m h = (f m h).bind (par3' i j l m) := rfl
@[simp] theorem set_ap (b : Nat) (v : List (Option D)) (i : Nat) (d : D) : Loc.set ⟨b, v⟩ i d = ⟨b, v.set i (some d)⟩ := rfl
@[simp] theorem wipe_ap (b : Nat) (v : List (Option D)) (vs : List Nat) : Loc.wipe ⟨b, v⟩ vs = ⟨b, wipeL v vs⟩ := rfl
@[simp] theorem wipeL_nil (v : List (Option D)) : wipeL v [] = v := rfl
@[simp] theorem wipeL_cons (v : List (Option D)) (i : Nat) (vs : List Nat) : wipeL v (i :: vs) = (wipeL v vs).set i none := rfl
@[simp] theorem forGo_nil (vs : List Nat) (g : MG) (b : MS) : forGo vs g b [] m h = .ok (.nx m) h := rfl
theorem forGo_cons (vs : List Nat) (g : MG) (b : MS) (d : D) (ds : List D) : forGo vs g b (d :: ds) m h = (g d m h).bind fun m1 h1 => turnK vs (b m1 h1) (forGo vs g b ds) := rfl
@[simp] theorem I_seq_ap (f : ME) : I_seq f m h = (f m h).bind fun d h1 => match seqF d with | some xs => .ok xs h1 | none => .stuck := rfl
@[simp] theorem I_enum_ap (f : ME) : I_enum f m h = (f m h).bind fun d h1 => match seqF d with | some xs => .ok (enumD 0 xs) h1 | none => .stuck := rfl
@[simp] theorem I_rng_ap (g : MA) : I_rng g m h = (g m h).bind fun ds h1 => match ds with
  | [.int b] => if -(2 ^ 62) ≤ b ∧ b < 2 ^ 62 then .ok (rngD 0 b) h1 else .stuck
  | _ => .stuck := rfl
@[simp] theorem E_lc_ap (lv : Bool) (vs : List Nat) (src : MI) (g : MG) (c : MT) (e : ME) : E_lc lv vs src g c e m h = (src m h).bind fun ds h1 => (lcGo g c e (m.wipe vs) ds [] h1).bind fun acc h2 => Mi.alloc lv (.lst acc) h2 := rfl
@[simp] theorem E_lc2_ap (lv : Bool) (vs vs1 : List Nat) (src src1 : MI) (g g1 : MG) (c c1 : MT) (e : ME) : E_lc2 lv vs vs1 src g c src1 g1 c1 e m h = (src m h).bind fun ds h1 => (lc2Go g c vs1 src1 g1 c1 e (m.wipe vs) ds [] h1).bind fun acc h2 => Mi.alloc lv (.lst acc) h2 := rfl
@[simp] theorem T_yes_ap : T_yes m h = .ok true h := rfl
end
/-! values -/
section
variable {h : Cells}
@[simp] theorem frz_int (i : Int) : frzD (.int i) h = .ok (.int i) h := rfl
@[simp] theorem frz_tup (i : List D) : frzD (.tup i) h = .ok (.tup i) h := rfl
@[simp] theorem frz_lst (i : List D) : frzD (.lst i) h = .ok (.lst i) h := rfl
@[simp] theorem frz_ref (n : Nat) : frzD (.ref n) h = (match h[n]? with | some (_, c) => .ok c (h.set n (false, c)) | none => .stuck) := rfl
@[simp] theorem allocF (c : D) : Mi.alloc false c h = .ok c h := rfl
@[simp] theorem allocT (c : D) : Mi.alloc true c h = .ok (.ref h.length) (h ++ [(true, c)]) := rfl
@[simp] theorem seqF_lst (xs : List D) : seqF (.lst xs) = some xs := rfl
@[simp] theorem seqF_tup' (xs : List D) : seqF (.tup xs) = some xs := rfl
@[simp] theorem seqF_scr (xs : List D) : seqF (.scr xs) = some xs := rfl
@[simp] theorem addD_ii (lv : Bool) (i j : Int) : addD lv (.int i) (.int j) h = .ok (.int (i + j)) h := rfl
@[simp] theorem subD_ii (i j : Int) : subD (.int i) (.int j) h = .ok (.int (i - j)) h := rfl
@[simp] theorem modD_ii (i j : Int) : modD (.int i) (.int j) h = if 0 < j then .ok (.int (i % j)) h else .stuck := rfl
@[simp] theorem divD_ii (i j : Int) : divD (.int i) (.int j) h = if posD j = true then .ok (.int (i / j)) h else .stuck := rfl
@[simp] theorem mulD_ii (lv : Bool) (i j : Int) : mulD lv (.int i) (.int j) h = if sml i = true ∨ sml j = true then .ok (.int (i * j)) h else .stuck := rfl
@[simp] theorem negD_i (i : Int) : negD (.int i) h = .ok (.int (-i)) h := rfl
@[simp] theorem intF_i (i : Int) : intF [.int i] h = .ok (.int i) h := rfl
@[simp] theorem ltI_ii (p : Int → Int → Bool) (i j : Int) : ltI p h (.int i) (.int j) = some (p i j) := rfl
theorem sml_of {i : Int} (h1 : -18446744073709551616 < i) (h2 : i < 18446744073709551616) : sml i = true := by
  unfold sml
  simp only [Bool.and_eq_true, decide_eq_true_eq]
  exact ⟨h1, h2⟩
theorem posD_of {i : Int} (h1 : 0 < i) (h2 : i < 18446744073709551616) : posD i = true := by
  unfold posD
  simp only [Bool.and_eq_true, decide_eq_true_eq]
  exact ⟨h1, h2⟩
@[simp] theorem refsLt_bl (n : Nat) (b : Bool) : refsLt n (.bl b) = true := by simp only [refsLt]
@[simp] theorem refsLt_int' (n : Nat) (b : Int) : refsLt n (.int b) = true := by simp only [refsLt]
@[simp] theorem refsLt_str' (n : Nat) (b : Str) : refsLt n (.str b) = true := by simp only [refsLt]
@[simp] theorem refsLt_non (n : Nat) : refsLt n .non = true := by simp only [refsLt]
@[simp] theorem refsLt_tup' (n : Nat) (xs : List D) : refsLt n (.tup xs) = refsLts n xs := by simp only [refsLt]
@[simp] theorem refsLt_lst' (n : Nat) (xs : List D) : refsLt n (.lst xs) = refsLts n xs := by simp only [refsLt]
@[simp] theorem refsLt_dK' (n : Nat) (ks : List Key) (xs : List D) : refsLt n (.dK ks xs) = refsLts n xs := by simp only [refsLt]
@[simp] theorem refsLt_dT' (n : Nat) (ks : List (List Key)) (xs : List D) : refsLt n (.dT ks xs) = refsLts n xs := by simp only [refsLt]
@[simp] theorem refsLts_nil (n : Nat) : refsLts n [] = true := by simp only [refsLts]
@[simp] theorem refsLts_cons (n : Nat) (x : D) (xs : List D) : refsLts n (x :: xs) = (refsLt n x && refsLts n xs) := by simp only [refsLts]
theorem refsLts_map {α : Type} {n : Nat} {f : α → D} (hf : ∀ a, refsLt n (f a) = true) (l : List α) : refsLts n (l.map f) = true := by
  rw [refsLts_mem]
  intro x hx
  obtain ⟨a, _, rfl⟩ := List.mem_map.mp hx
  exact hf a
end
end Mi

/-! Mi19: loops and comprehensions, as lists. -/
namespace Mi
open PySem
/-- [e for g in .. if c] where nothing is written -/
theorem lcGo_filter {g : MG} {c : MT} {e : ME} {m0 : Loc} {h : Cells} {p : D → Bool} {φ : D → D} : ∀ {ds acc : List D}, (∀ d ∈ ds, ∃ m1, g d m0 h = .ok m1 h ∧ c m1 h = .ok (p d) h ∧ (p d = true → e m1 h = .ok (φ d) h)) → acc.length + ds.length ≤ big →
    lcGo g c e m0 ds acc h = .ok (acc ++ (ds.filter p).map φ) h
  | [], acc, _, _ => by simp [lcGo]
  | d :: ds, acc, hy, hl => by
    obtain ⟨m1, e1, e2, e3⟩ := hy d List.mem_cons_self
    rw [List.length_cons] at hl
    simp only [lcGo, e1, e2, Res.bind_ok]
    cases q : p d with
    | false =>
      rw [if_neg Bool.false_ne_true, List.filter_cons_of_neg (by rw [q]; exact Bool.false_ne_true)]
      exact lcGo_filter (fun d' hd => hy d' (List.mem_cons_of_mem _ hd)) (by omega)
    | true =>
      rw [if_pos rfl, e3 q, List.filter_cons_of_pos q]
      simp only [Res.bind_ok]
      rw [if_pos (by omega), lcGo_filter (fun d' hd => hy d' (List.mem_cons_of_mem _ hd)) (by rw [List.length_append, List.length_singleton]; omega)]
      simp
theorem lcGo_map {g : MG} {c : MT} {e : ME} {m0 : Loc} {h : Cells} {φ : D → D} {ds : List D} (hy : ∀ d ∈ ds, ∃ m1, g d m0 h = .ok m1 h ∧ c m1 h = .ok true h ∧ e m1 h = .ok (φ d) h) (hl : ds.length ≤ big) :
    lcGo g c e m0 ds [] h = .ok (ds.map φ) h := by
  rw [lcGo_filter (p := fun _ => true) (φ := φ) (fun d hd => by obtain ⟨m1, a, b, c⟩ := hy d hd; exact ⟨m1, a, b, fun _ => c⟩) (by simpa using hl)]
  have : ds.filter (fun _ => true) = ds := List.filter_eq_self.mpr fun _ _ => rfl
  rw [this]; rfl
/-- over a list of the shape l.map ι -/
theorem lcGo_mapι {α : Type} {g : MG} {c : MT} {e : ME} {m0 : Loc} {h : Cells} {ι : α → D} {φ : α → D} : ∀ {l : List α} {acc : List D}, (∀ a ∈ l, ∃ m1, g (ι a) m0 h = .ok m1 h ∧ c m1 h = .ok true h ∧ e m1 h = .ok (φ a) h) → acc.length + l.length ≤ big →
    lcGo g c e m0 (l.map ι) acc h = .ok (acc ++ l.map φ) h
  | [], acc, _, _ => by simp [lcGo]
  | a :: l, acc, hy, hl => by
    obtain ⟨m1, e1, e2, e3⟩ := hy a List.mem_cons_self
    rw [List.length_cons] at hl
    simp only [List.map_cons, lcGo, e1, e2, e3, Res.bind_ok, if_true]
    rw [if_pos (by omega), lcGo_mapι (fun d' hd => hy d' (List.mem_cons_of_mem _ hd)) (by rw [List.length_append, List.length_singleton]; omega)]
    simp
theorem lcGo_filterι {α : Type} {g : MG} {c : MT} {e : ME} {m0 : Loc} {h : Cells} {ι : α → D} {p : α → Bool} {φ : α → D} : ∀ {l : List α} {acc : List D}, (∀ a ∈ l, ∃ m1, g (ι a) m0 h = .ok m1 h ∧ c m1 h = .ok (p a) h ∧ (p a = true → e m1 h = .ok (φ a) h)) → acc.length + l.length ≤ big →
    lcGo g c e m0 (l.map ι) acc h = .ok (acc ++ (l.filter p).map φ) h
  | [], acc, _, _ => by simp [lcGo]
  | a :: l, acc, hy, hl => by
    obtain ⟨m1, e1, e2, e3⟩ := hy a List.mem_cons_self
    rw [List.length_cons] at hl
    simp only [List.map_cons, lcGo, e1, e2, Res.bind_ok]
    cases q : p a with
    | false =>
      rw [if_neg Bool.false_ne_true, List.filter_cons_of_neg (by rw [q]; exact Bool.false_ne_true)]
      exact lcGo_filterι (fun d' hd => hy d' (List.mem_cons_of_mem _ hd)) (by omega)
    | true =>
      rw [if_pos rfl, e3 q, List.filter_cons_of_pos q]
      simp only [Res.bind_ok]
      rw [if_pos (by omega), lcGo_filterι (fun d' hd => hy d' (List.mem_cons_of_mem _ hd)) (by rw [List.length_append, List.length_singleton]; omega)]
      simp
/-- two clauses -/
theorem lc2Go_mapι {α β : Type} {g g1 : MG} {c c1 : MT} {src1 : MI} {e : ME} {vs1 : List Nat} {m0 : Loc} {h : Cells} {ι : α → D} {κ : α → β → D} {L : α → List β} {φ : α → β → D} : ∀ {l : List α} {acc : List D},
    (∀ a ∈ l, ∃ m1, g (ι a) m0 h = .ok m1 h ∧ c m1 h = .ok true h ∧ src1 m1 h = .ok ((L a).map (κ a)) h ∧ ∀ b ∈ L a, ∃ m2, g1 (κ a b) (m1.wipe vs1) h = .ok m2 h ∧ c1 m2 h = .ok true h ∧ e m2 h = .ok (φ a b) h) →
    acc.length + (l.map fun a => (L a).length).sum ≤ big → lc2Go g c vs1 src1 g1 c1 e m0 (l.map ι) acc h = .ok (acc ++ l.flatMap fun a => (L a).map (φ a)) h
  | [], acc, _, _ => by simp [lc2Go]
  | a :: l, acc, hy, hl => by
    obtain ⟨m1, e1, e2, e3, e4⟩ := hy a List.mem_cons_self
    rw [List.map_cons, List.sum_cons] at hl
    simp only [List.map_cons, lc2Go, e1, e2, e3, Res.bind_ok, if_true]
    rw [lcGo_mapι e4 (by omega)]
    simp only [Res.bind_ok]
    rw [lc2Go_mapι (fun d' hd => hy d' (List.mem_cons_of_mem _ hd)) (by rw [List.length_append, List.length_map]; omega)]
    simp
/-- a loop by an invariant of what is left -/
theorem forGo_ind {vs : List Nat} {g : MG} {b : MS} (I : List D → Loc → Cells → Prop) (step : ∀ d ds m h, I (d :: ds) m h → ∃ m1 h1 m2 h2, g d m h = .ok m1 h1 ∧ b m1 h1 = .ok (.nx m2) h2 ∧ I ds (m2.wipe vs) h2) :
    ∀ ds m h, I ds m h → ∃ m' h', forGo vs g b ds m h = .ok (.nx m') h' ∧ I [] m' h'
  | [], m, h, i => ⟨m, h, rfl, i⟩
  | d :: ds, m, h, i => by
    obtain ⟨m1, h1, m2, h2, e1, e2, i2⟩ := step d ds m h i
    obtain ⟨m', h', e3, i3⟩ := forGo_ind I step ds _ _ i2
    exact ⟨m', h', by rw [forGo_cons, e1]; simp only [Res.bind_ok]; rw [e2]; exact e3, i3⟩
/-- a loop as a fold over data: the state at s is told by M -/
theorem forGo_fold {α σ : Type} {vs : List Nat} {g : MG} {b : MS} {ι : α → D} {M : σ → Loc} {C : σ → Cells} {f : σ → α → σ} (ok : σ → List α → Prop) (hok : ∀ s a l, ok s (a :: l) → ok (f s a) l)
    (step : ∀ s a l, ok s (a :: l) → ∃ m1 h1 m2, g (ι a) (M s) (C s) = .ok m1 h1 ∧ b m1 h1 = .ok (.nx m2) (C (f s a)) ∧ m2.wipe vs = M (f s a)) :
    ∀ (l : List α) (s : σ), ok s l → forGo vs g b (l.map ι) (M s) (C s) = .ok (.nx (M (l.foldl f s))) (C (l.foldl f s))
  | [], s, _ => rfl
  | a :: l, s, i => by
    obtain ⟨m1, h1, m2, e1, e2, e3⟩ := step s a l i
    rw [List.map_cons, forGo_cons, e1]
    simp only [Res.bind_ok]
    rw [e2, turnK_nx, e3]
    exact forGo_fold ok hok step l (f s a) (hok s a l i)
end Mi

/-! Mi20: the sum of a list or a tuple of ints. -/
namespace Mi
open PySem PySem.Spec PyProof.Rows L2
section
variable {X : Cx} {W : Wish} {K : PySem.W.Frag}
def rSumA (K : PySem.W.Frag) : List V → Hp → VK → Prop := fun vs H Q => ∃ (a : Addr) (ns : List Int), vs = [V.ref a] ∧ (SqL K H a (ns.map V.int) ∨ SqT K H a (ns.map V.int)) ∧ Q (.int ns.sum) H
theorem cr_sumA (hc : X.calm = true) : CallR X (.builtin "sum") (rSumA X.K) := by
  intro pins s σ H vs us Q I r h
  obtain ⟨a, ns, rfl, hs | hs, q⟩ := h
  · exact cr_sum hc pins s σ H _ us Q I r ⟨a, ns, rfl, hs, q⟩
  · obtain ⟨its, rv, pt, hz⟩ := I.tuple hs
    rw [Vals.ref1 r]
    have hi := ints_of_vals rv
    obtain ⟨xs, e⟩ := hi.allInts.items
    have hn : numsOf (intItems xs).toList = ns := by rw [← e]; exact hi.numsOf
    rw [nums_intItems] at hn
    have pt' : s.heap.IsTuple a its.toArray := pt
    rw [e] at pt'
    refine PySem.W.ktm_sumG (I.ok.hd hc) pt' fun h' tk t' hk => ?_
    rw [preSum_eq, List.take_of_length_le (by simp), hn]
    exact ⟨.int _, H, I.kept hk, ⟨_, rfl⟩, q⟩
def sumA (ds : List D) (h : Cells) : Res D := match ds with
  | [d] => (match seqInts h d with
    | some ns => .ok (.int ns.sum) h
    | none => .stuck)
  | _ => .stuck
theorem calls_sumA : CallS K W (rSumA K) sumA := by
  intro r h H ds vs Q hr rs w
  unfold sumA at w
  split at w
  · split at w
    · rename_i ns e
      obtain ⟨v, rfl, rv⟩ := rvs1 rs
      obtain ⟨a, rfl, ea⟩ := seqInts_ok hr rv e
      exact ⟨a, ns, rfl, ea, w r H _ hr .refl rv_int⟩
    · exact w.elim
  · exact w.elim
end
theorem rngD_nat (n : Nat) : rngD 0 (n : Int) = (List.range n).map fun (i : Nat) => .int (i : Int) := by
  unfold rngD
  simp
theorem b62 (n : Nat) (hn : n ≤ 1000000) : -(2 ^ 62) ≤ (n : Int) ∧ (n : Int) < 2 ^ 62 := ⟨Int.le_trans (by decide : -(2 ^ 62) ≤ (0:Int)) (Int.natCast_nonneg n), Int.lt_of_le_of_lt (Int.ofNat_le.mpr hn) (by decide)⟩
theorem rng_ite {α : Type} (c : Prop) [Decidable c] (h : c) {a b x : α} (e : a = x) : (if c then a else b) = x := by rw [if_pos h, e]
theorem I_rng_nat {h : Cells} {f : MA} {m : Loc} (n : Nat) (hn : n ≤ 1000000) (e : f m h = .ok [.int (n : Int)] h) : I_rng f m h = .ok ((List.range n).map fun (i : Nat) => .int (i : Int)) h := by
  unfold I_rng
  rw [e, Res.bind_ok]
  exact rng_ite _ (b62 n hn) (by rw [rngD_nat])
theorem rgOkB_nat (n : Nat) (hn : n ≤ 1000000) : rgOkB 0 (n : Int) = true := by
  unfold rgOkB
  refine decide_eq_true ⟨by decide, by decide, (b62 n hn).1, (b62 n hn).2, ?_⟩
  have : ((n : Int) - 0).toNat = n := by omega
  rw [this]
  exact Nat.le_trans hn (by decide)
theorem listRg_nat {h : Cells} {f : MA} {m : Loc} (n : Nat) (hn : n ≤ 1000000) (e : f m h = .ok [.int (n : Int)] h) (lv : Bool) : E_listRg lv f m h = Mi.alloc lv (.lst ((List.range n).map fun (i : Nat) => .int (i : Int))) h := by
  unfold E_listRg
  rw [e, Res.bind_ok]
  exact rng_ite _ (rgOkB_nat n hn) (by rw [rngD_nat])
theorem tupRg_nat {h : Cells} {f : MA} {m : Loc} (n : Nat) (hn : n ≤ 1000000) (e : f m h = .ok [.int (n : Int)] h) : E_tupRg f m h = .ok (.tup ((List.range n).map fun (i : Nat) => .int (i : Int))) h := by
  unfold E_tupRg
  rw [e, Res.bind_ok]
  exact rng_ite _ (rgOkB_nat n hn) (by rw [rngD_nat])
@[simp] theorem atI_0 (x : D) (xs : List D) : L2.atI (x :: xs) 0 = some x := L2.atI_nat (j := 0) rfl
@[simp] theorem atI_1 (x y : D) (xs : List D) : L2.atI (x :: y :: xs) 1 = some y := L2.atI_nat (j := 1) rfl
@[simp] theorem atI_2 (x y z : D) (xs : List D) : L2.atI (x :: y :: z :: xs) 2 = some z := L2.atI_nat (j := 2) rfl
@[simp] theorem O_none_ap (m : Loc) (h : Cells) : O_none m h = .ok none h := rfl
@[simp] theorem O_some_ap (f : ME) (m : Loc) (h : Cells) : O_some f m h = (f m h).bind fun d h1 => match d with
  | .int i => .ok (some i) h1
  | _ => .stuck := rfl
@[simp] theorem E_slice_ap (lv : Bool) (f : ME) (lo hi : Loc → Cells → Res (Option Int)) (m : Loc) (h : Cells) : E_slice lv f lo hi m h = (f m h).bind fun x h1 => (lo m h1).bind fun l h2 => (hi m h2).bind fun u h3 => sliceD lv x l u h3 := rfl
@[simp] theorem eqC_ii (h : Cells) (i j : Int) : eqC h (.int i) (.int j) = some (i == j) := by
  unfold eqC
  have : okD 60 (der h (.int i)) = true ∧ okD 60 (der h (.int j)) = true := ⟨by simp [der, okD], by simp [der, okD]⟩
  rw [if_pos this]
  simp [der, eqD]
@[simp] theorem eqC_ss (h : Cells) (i j : Str) (hi : PyData.strOk i = true) (hj : PyData.strOk j = true) : eqC h (.str i) (.str j) = some (i == j) := by
  unfold eqC
  have : okD 60 (der h (.str i)) = true ∧ okD 60 (der h (.str j)) = true := ⟨by simp [der, okD, hi], by simp [der, okD, hj]⟩
  rw [if_pos this]
  simp [der, eqD]
@[simp] theorem neC_ii (h : Cells) (i j : Int) : neC h (.int i) (.int j) = some (!(i == j)) := by
  unfold neC; rw [eqC_ii]; rfl
@[simp] theorem neC_ss (h : Cells) (i j : Str) (hi : PyData.strOk i = true) (hj : PyData.strOk j = true) : neC h (.str i) (.str j) = some (!(i == j)) := by
  unfold neC; rw [eqC_ss h i j hi hj]; rfl
end Mi

/-! K78: the defs, printed by gen.py -/
namespace K78
open PySem PySem.Spec PyProof.Rows L2 Mi
def topS (i : Nat) : Stmt := PySem.Challenge.pw_touchrings_k78_skip_plans_done.main.body.getD i (.Pass ⟨0, 0, 0, 0⟩)
noncomputable def b_f_law_deck : MS := (S_cons (S_set 2 (E2 (addD false) (E_c (.int 10896000)) (E_var 1)))
 (S_cons (S_for [] (I_seq (E_slice false (E_var 0) O_none (O_some (E_c (.int 63))))) (G_name 3)
 (S_cons (S_set 2 (E2 modD (E_fn intF (A_cons (E2 (addD false) (E2 (addD false) (E2 (mulD false) (E_var 2) (E_c (.int 41358))) (E2 modD (E_fn intF (A_cons (E_var 3) A_nil)) (E_c (.int 2147483587)))) (E_c (.int 29))) A_nil)) (E_c (.int 2147483563))))
 S_nil))
 (S_cons (S_ret (E_disp true (A_cons (E_c (.str "cells")) (A_cons (E1 (revD true) (E_lc false [3] (I_seq (E_slice false (E_var 0) O_none (O_some (E_c (.int 63))))) (G_name 3) T_yes (E_fn intF (A_cons (E_var 3) A_nil)))) (A_cons (E_c (.str "mixed")) (A_cons (E_var 2) (A_cons (E_c (.str "turn")) (A_cons (E_c (.int 0)) A_nil))))))))
 S_nil)))
noncomputable def f_law_deck : Fn := mkFnL 2 4 b_f_law_deck
noncomputable def b_f_law_places : MS := (S_cons (S_set 1 (E_lst true A_nil))
 (S_cons (S_for [2, 3] (I_enum (E_var 0)) (G_tup 2 (GS_cons (G_name 2) (GS_cons (G_name 3) GS_nil)))
 (S_cons (S_expr (E_mtL extendM (E_var 1) (A_cons (E_lc false [4] (I_rng (A_cons (E_var 3) A_nil)) (G_name 4) T_yes (E_tup (A_cons (E_var 2) (A_cons (E_var 4) A_nil)))) A_nil)))
 S_nil))
 (S_cons (S_ret (E_frz 1))
 S_nil)))
noncomputable def f_law_places : Fn := mkFn 1 5 b_f_law_places
noncomputable def b_f_law_draw : MS := (S_cons (S_asg (E2 (addD false) (E_idx (E_var 0) (E_c (.str "turn"))) (E_c (.int 1))) (G_sub (E_var 0) (E_c (.str "turn"))))
 (S_cons (S_set 2 (E2 (addD false) (E_idx (E_var 0) (E_c (.str "mixed"))) (E2 (mulD false) (E_c (.int 61001)) (E_idx (E_var 0) (E_c (.str "turn"))))))
 (S_cons (S_if (T_cmp neC (E_idx (E_var 0) (E_c (.str "cells"))) (E_lst false A_nil))
 (S_cons (S_set 3 (E_mtL popM (E_idx (E_var 0) (E_c (.str "cells"))) A_nil))
 (S_cons (S_if (T_cmp (ltI fun i j => decide (j ≤ i)) (E_var 3) (E2 powD (E_c (.int 10)) (E_c (.int 18))))
 (S_cons (S_expr (E_mtL appendM (E_idx (E_var 0) (E_c (.str "cells"))) (A_cons (E2 divD (E_var 3) (E_fn (twoF true) (A_cons (E_c (.int 2)) (A_cons (E_var 1) A_nil)))) A_nil)))
 (S_cons (S_ret (E2 modD (E_fn intF (A_cons (E_var 3) A_nil)) (E_var 1)))
 S_nil))
 S_nil)
 (S_cons (S_set 2 (E2 (addD false) (E_var 2) (E2 modD (E_fn intF (A_cons (E_var 3) A_nil)) (E_c (.int 2147483549)))))
 S_nil)))
 S_nil)
 (S_cons (S_set 2 (E2 modD (E_fn intF (A_cons (E2 (addD false) (E2 (mulD false) (E_var 2) (E_c (.int 40014))) (E_c (.int 29))) A_nil)) (E_c (.int 2147483563))))
 (S_cons (S_set 2 (E2 modD (E_fn intF (A_cons (E2 (addD false) (E2 (addD false) (E2 (mulD false) (E_var 2) (E_var 2)) (E2 (mulD false) (E_c (.int 70001)) (E_idx (E_var 0) (E_c (.str "turn"))))) (E_c (.int 29))) A_nil)) (E_c (.int 2147483579))))
 (S_cons (S_set 2 (E2 modD (E_fn intF (A_cons (E2 (mulD false) (E_var 2) (E_c (.int 39373))) A_nil)) (E_c (.int 2147483647))))
 (S_cons (S_ret (E2 modD (E_fn intF (A_cons (E2 divD (E_var 2) (E_c (.int 64))) A_nil)) (E_var 1)))
 S_nil)))))))
noncomputable def f_law_draw : Fn := mkFn 2 4 b_f_law_draw
noncomputable def b_f_law_pick : MS := (S_cons (S_ret (E_idx (E_var 1) (E_fn f_law_draw (A_cons (E_var 0) (A_cons (E_fn lenF (A_cons (E_var 1) A_nil)) A_nil)))))
 S_nil)
noncomputable def f_law_pick : Fn := mkFn 2 2 b_f_law_pick
noncomputable def b_f_law_touched : MS := (S_cons (S_ret (E_fn tupleF (A_cons (E_fn (sortedF false) (A_cons (E_lc false [3] (I_rng (A_cons (E_var 2) A_nil)) (G_name 3) T_yes (E_fn tupleF (A_cons (E_fn (sortedF false) (A_cons (E_lst false (A_cons (E_idx (E_var 0) (E_idx (E_var 1) (E2 (mulD false) (E_c (.int 2)) (E_var 3)))) (A_cons (E_idx (E_var 0) (E_idx (E_var 1) (E2 (addD false) (E2 (mulD false) (E_c (.int 2)) (E_var 3)) (E_c (.int 1))))) A_nil))) A_nil)) A_nil))) A_nil)) A_nil)))
 S_nil)
noncomputable def f_law_touched : Fn := mkFn 3 4 b_f_law_touched
noncomputable def b_f_law_order : MS := (S_cons (S_par 2 3 (A_cons (E_listRg true (A_cons (E_var 1) A_nil)) (A_cons (E_lst true A_nil) A_nil)))
 (S_cons (S_for [4] (I_rng (A_cons (E_var 1) A_nil)) (G_name 4)
 (S_cons (S_expr (E_mtL appendM (E_var 3) (A_cons (E_mtL popAtM (E_var 2) (A_cons (E_fn f_law_draw (A_cons (E_var 0) (A_cons (E_fn lenF (A_cons (E_var 2) A_nil)) A_nil))) A_nil)) A_nil)))
 S_nil))
 (S_cons (S_ret (E_fn tupleF (A_cons (E_var 3) A_nil)))
 S_nil)))
noncomputable def f_law_order : Fn := mkFn 2 5 b_f_law_order
noncomputable def b_f_law_floor : MS := (S_cons (S_par3 3 4 5 (A_cons (E_lst true A_nil) (A_cons (E_var 1) (A_cons (E_fn f_law_pick (A_cons (E_var 0) (A_cons (E_lst false (A_cons (E_c (.int 1)) (A_cons (E_c (.int 1)) (A_cons (E_c (.int 2)) (A_cons (E_c (.int 1)) (A_cons (E_c (.int 2)) (A_cons (E_c (.int 3)) A_nil))))))) A_nil))) A_nil))))
 (S_cons (S_for [6, 7] (I_rng (A_cons (E_fn f_law_pick (A_cons (E_var 0) (A_cons (E_lst false (A_cons (E_c (.int 2)) (A_cons (E_c (.int 3)) (A_cons (E_c (.int 2)) (A_cons (E_c (.int 3)) (A_cons (E_c (.int 1)) (A_cons (E_c (.int 4)) A_nil))))))) A_nil))) A_nil)) (G_name 6)
 (S_cons (S_if (T_cmp (ltI fun i j => decide (j ≤ i)) (E_var 4) (E_var 5))
 (S_cons (S_set 7 (E_fn (twoF false) (A_cons (E_var 4) (A_cons (E_fn f_law_pick (A_cons (E_var 0) (A_cons (E_lst false (A_cons (E_c (.int 3)) (A_cons (E_c (.int 5)) (A_cons (E_c (.int 4)) (A_cons (E_var 1) A_nil))))) A_nil))) A_nil))))
 (S_cons (S_expr (E_mtL appendM (E_var 3) (A_cons (E2 (mulD false) (E_var 5) (E2 (addD false) (E_c (.int 1)) (E_fn f_law_draw (A_cons (E_var 0) (A_cons (E_fn (twoF true) (A_cons (E_c (.int 1)) (A_cons (E2 divD (E_var 7) (E_var 5)) A_nil))) A_nil))))) A_nil)))
 (S_cons (S_set 4 (E2 subD (E_var 4) (E_idx (E_var 3) (E1 negD (E_c (.int 1))))))
 S_nil)))
 S_nil)
 S_nil))
 (S_cons (S_if (T_cmp eqC (E_var 3) (E_lst false A_nil))
 (S_cons (S_expr (E_mtL appendM (E_var 3) (A_cons (E2 (addD false) (E_c (.int 1)) (E_fn f_law_draw (A_cons (E_var 0) (A_cons (E_var 1) A_nil)))) A_nil)))
 S_nil)
 S_nil)
 (S_cons (S_set 8 (E_fn f_law_places (A_cons (E_frz 3) A_nil)))
 (S_cons (S_set 9 (E_fn f_law_draw (A_cons (E_var 0) (A_cons (E2 (addD false) (E_fn (twoF false) (A_cons (E_var 2) (A_cons (E2 divD (E_fn lenF (A_cons (E_var 8) A_nil)) (E_c (.int 2))) A_nil))) (E_c (.int 1))) A_nil))))
 (S_cons (S_ret (E_tup (A_cons (E_fn tupleF (A_cons (E_var 3) A_nil)) (A_cons (E_fn f_law_touched (A_cons (E_var 8) (A_cons (E_fn f_law_order (A_cons (E_var 0) (A_cons (E_fn lenF (A_cons (E_var 8) A_nil)) A_nil))) (A_cons (E_var 9) A_nil)))) A_nil))))
 S_nil))))))
noncomputable def f_law_floor : Fn := mkFn 3 10 b_f_law_floor
noncomputable def b_f_law_led : MS := (S_cons (S_set 2 (E_fn (listF true) (A_cons (E_var 0) A_nil)))
 (S_cons (S_for [3, 4] (I_enum (E_var 0)) (G_tup 2 (GS_cons (G_name 3) (GS_cons (G_name 4) GS_nil)))
 (S_cons (S_asg (E_var 4) (G_sub (E_var 2) (E_idx (E_var 1) (E_var 3))))
 S_nil))
 (S_cons (S_ret (E_fn tupleF (A_cons (E_var 2) A_nil)))
 S_nil)))
noncomputable def f_law_led : Fn := mkFn 2 5 b_f_law_led
noncomputable def b_f_law_call : MS := (S_cons (S_ret (E_fn tupleF (A_cons (E_lc false [2] (I_rng (A_cons (E_fn lenF (A_cons (E_idx (E_idx (E_var 1) (E_c (.str "floor"))) (E_c (.int 1))) A_nil)) A_nil)) (G_name 2) (T_cmp eqC (E_fn f_law_draw (A_cons (E_var 0) (A_cons (E_c (.int 2)) A_nil))) (E_c (.int 0))) (E_var 2)) A_nil)))
 S_nil)
noncomputable def f_law_call : Fn := mkFn 2 3 b_f_law_call
noncomputable def f_law_plan : Nat → Fn
  | 0 => fun _ _ => .stuck
  | n + 1 => mkFn 5 9 (S_cons (S_set 5 (E_lst true A_nil))
 (S_cons (S_for [6, 7, 8] (I_rng (A_cons (E_fn f_law_draw (A_cons (E_var 0) (A_cons (E2 (addD false) (E_var 4) (E_c (.int 1))) A_nil))) A_nil)) (G_name 6)
 (S_cons (S_set 7 (E_fn f_law_draw (A_cons (E_var 0) (A_cons (E_c (.int 6)) A_nil))))
 (S_cons (S_if (T_and (T_cmp eqC (E_var 7) (E_c (.int 0))) (T_cmp (ltI fun i j => decide (j < i)) (E_var 3) (E_c (.int 0))))
 (S_cons (S_set 8 (E_fn f_law_pick (A_cons (E_var 0) (A_cons (E_lst false (A_cons (E_c (.int 0)) (A_cons (E_c (.int 1)) (A_cons (E_c (.int 2)) (A_cons (E_c (.int 3)) (A_cons (E_c (.int 5)) (A_cons (E_c (.int 12)) (A_cons (E_c (.int 1000)) (A_cons (E2 powD (E_c (.int 10)) (E_c (.int 6))) A_nil))))))))) A_nil))))
 (S_cons (S_expr (E_mtL appendM (E_var 5) (A_cons (E_tup (A_cons (E_c (.str "times")) (A_cons (E_var 8) (A_cons (E_fn (f_law_plan n) (A_cons (E_var 0) (A_cons (E_var 1) (A_cons (E_var 2) (A_cons (E2 subD (E_var 3) (E_c (.int 1))) (A_cons (E_c (.int 2)) A_nil)))))) A_nil)))) A_nil)))
 S_nil))
 (S_cons (S_if (T_and (T_cmp (ltI fun i j => decide (i < j)) (E_var 7) (E_c (.int 3))) (T_cmp neC (E_var 2) (E_tup A_nil)))
 (S_cons (S_expr (E_mtL appendM (E_var 5) (A_cons (E_tup (A_cons (E_c (.str "skip")) (A_cons (E_fn f_law_draw (A_cons (E_var 0) (A_cons (E_fn lenF (A_cons (E_var 2) A_nil)) A_nil))) A_nil))) A_nil)))
 S_nil)
 (S_cons (S_expr (E_mtL appendM (E_var 5) (A_cons (E_tup (A_cons (E_c (.str "beat")) (A_cons (E_fn f_law_call (A_cons (E_var 0) (A_cons (E_var 1) A_nil))) A_nil))) A_nil)))
 S_nil))
 S_nil))
 S_nil)))
 (S_cons (S_ret (E_fn tupleF (A_cons (E_var 5) A_nil)))
 S_nil)))
noncomputable def b_f_is_pair : MS := (S_cons (S_ret (E_and (E_isa "tuple" (E_var 0)) (E_T (T_cmp eqC (E_fn lenF (A_cons (E_var 0) A_nil)) (E_c (.int 2))))))
 S_nil)
noncomputable def f_is_pair : Fn := mkFn 1 1 b_f_is_pair
noncomputable def b_f_is_integer : MS := (S_cons (S_ret (E_and (E_isa "int" (E_var 0)) (E_not (E_isa "bool" (E_var 0)))))
 S_nil)
noncomputable def f_is_integer : Fn := mkFn 1 1 b_f_is_integer
noncomputable def b_f_is_from : MS := (S_cons (S_ret (E_and (E_fn f_is_integer (A_cons (E_var 0) A_nil)) (E_T (T_cmp (ltI fun i j => decide (j ≤ i)) (E_var 0) (E_var 1)))))
 S_nil)
noncomputable def f_is_from : Fn := mkFn 2 2 b_f_is_from
noncomputable def b_f_are_rings_value : MS := (S_cons (S_ret (E_and (E_isa "tuple" (E_var 0)) (E_and (E_chain (ltI fun i j => decide (i ≤ j)) (ltI fun i j => decide (i ≤ j)) (E_c (.int 1)) (E_fn lenF (A_cons (E_var 0) A_nil)) (E_c (.int 40))) (E_fn allF (A_cons (E_lc false [1] (I_seq (E_var 0)) (G_name 1) T_yes (E_fn f_is_from (A_cons (E_var 1) (A_cons (E_c (.int 1)) A_nil)))) A_nil)))))
 S_nil)
noncomputable def f_are_rings_value : Fn := mkFn 1 2 b_f_are_rings_value
noncomputable def b_f_is_between : MS := (S_cons (S_ret (E_and (E_fn f_is_integer (A_cons (E_var 0) A_nil)) (E_chain (ltI fun i j => decide (i ≤ j)) (ltI fun i j => decide (i ≤ j)) (E_var 1) (E_var 0) (E_var 2))))
 S_nil)
noncomputable def f_is_between : Fn := mkFn 3 3 b_f_is_between
noncomputable def b_f_is_place_of : MS := (S_cons (S_if (T_or (T_not (T_E (E_fn f_is_pair (A_cons (E_var 1) A_nil)))) (T_not (T_E (E_fn f_is_between (A_cons (E_idx (E_var 1) (E_c (.int 0))) (A_cons (E_c (.int 0)) (A_cons (E2 subD (E_fn lenF (A_cons (E_var 0) A_nil)) (E_c (.int 1))) A_nil)))))))
 (S_cons (S_ret (E_c (.bl false)))
 S_nil)
 S_nil)
 (S_cons (S_ret (E_fn f_is_between (A_cons (E_idx (E_var 1) (E_c (.int 1))) (A_cons (E_c (.int 0)) (A_cons (E2 subD (E_idx (E_var 0) (E_idx (E_var 1) (E_c (.int 0)))) (E_c (.int 1))) A_nil)))))
 S_nil))
noncomputable def f_is_place_of : Fn := mkFn 2 2 b_f_is_place_of
noncomputable def b_f_is_touch_of : MS := (S_cons (S_if (T_or (T_not (T_E (E_fn f_is_pair (A_cons (E_var 1) A_nil)))) (T_or (T_not (T_E (E_fn f_is_place_of (A_cons (E_var 0) (A_cons (E_idx (E_var 1) (E_c (.int 0))) A_nil))))) (T_not (T_E (E_fn f_is_place_of (A_cons (E_var 0) (A_cons (E_idx (E_var 1) (E_c (.int 1))) A_nil)))))))
 (S_cons (S_ret (E_c (.bl false)))
 S_nil)
 S_nil)
 (S_cons (S_ret (E_T (T_cmp ltA (E_idx (E_var 1) (E_c (.int 0))) (E_idx (E_var 1) (E_c (.int 1))))))
 S_nil))
noncomputable def f_is_touch_of : Fn := mkFn 2 2 b_f_is_touch_of
noncomputable def b_f_are_touches_of : MS := (S_cons (S_if (T_or (T_not (T_E (E_isa "tuple" (E_var 1)))) (T_not (T_E (E_fn allF (A_cons (E_lc false [3] (I_seq (E_var 1)) (G_name 3) T_yes (E_fn f_is_touch_of (A_cons (E_var 0) (A_cons (E_var 3) A_nil)))) A_nil)))))
 (S_cons (S_ret (E_c (.bl false)))
 S_nil)
 S_nil)
 (S_cons (S_set 2 (E_lc2 false [3, 4] [4] (I_seq (E_var 1)) (G_name 3) T_yes (I_seq (E_var 3)) (G_name 4) T_yes (E_var 4)))
 (S_cons (S_ret (E_and (E_T (T_cmp eqC (E_fn (listF false) (A_cons (E_var 1) A_nil)) (E_fn (sortedF false) (A_cons (E_var 1) A_nil)))) (E_T (T_cmp eqC (E1 lenSetF (E_var 2)) (E_fn lenF (A_cons (E_var 2) A_nil))))))
 S_nil)))
noncomputable def f_are_touches_of : Fn := mkFn 2 5 b_f_are_touches_of
noncomputable def b_f_is_floor_value : MS := (S_cons (S_ret (E_and (E_fn f_is_pair (A_cons (E_var 0) A_nil)) (E_and (E_fn f_are_rings_value (A_cons (E_idx (E_var 0) (E_c (.int 0))) A_nil)) (E_fn f_are_touches_of (A_cons (E_idx (E_var 0) (E_c (.int 0))) (A_cons (E_idx (E_var 0) (E_c (.int 1))) A_nil))))))
 S_nil)
noncomputable def f_is_floor_value : Fn := mkFn 1 1 b_f_is_floor_value
noncomputable def b_f_need_floor : MS := (S_cons (S_if (T_not (T_E (E_fn f_is_floor_value (A_cons (E_var 0) A_nil))))
 (S_cons S_never
 S_nil)
 S_nil)
 S_nil)
noncomputable def f_need_floor : Fn := mkFn 1 1 b_f_need_floor
noncomputable def b_f_is_skip_of : MS := (S_cons (S_ret (E_and (E_fn f_is_pair (A_cons (E_var 1) A_nil)) (E_and (E_fn f_is_between (A_cons (E_idx (E_var 1) (E_c (.int 0))) (A_cons (E_c (.int 0)) (A_cons (E2 subD (E_fn lenF (A_cons (E_idx (E_var 0) (E_c (.int 0))) A_nil)) (E_c (.int 1))) A_nil)))) (E_fn f_is_between (A_cons (E_idx (E_var 1) (E_c (.int 1))) (A_cons (E_c (.int 1)) (A_cons (E_c (.int 1000)) A_nil)))))))
 S_nil)
noncomputable def f_is_skip_of : Fn := mkFn 2 2 b_f_is_skip_of
noncomputable def b_f_are_skips_value : MS := (S_cons (S_if (T_or (T_not (T_E (E_isa "tuple" (E_var 1)))) (T_not (T_E (E_fn allF (A_cons (E_lc false [2] (I_seq (E_var 1)) (G_name 2) T_yes (E_fn f_is_skip_of (A_cons (E_var 0) (A_cons (E_var 2) A_nil)))) A_nil)))))
 (S_cons (S_ret (E_c (.bl false)))
 S_nil)
 S_nil)
 (S_cons (S_ret (E_fn allF (A_cons (E_lc false [3, 4] (I_zip (A_cons (E_var 1) (A_cons (E_slice false (E_var 1) (O_some (E_c (.int 1))) O_none) A_nil))) (G_tup 2 (GS_cons (G_name 3) (GS_cons (G_name 4) GS_nil))) T_yes (E_T (T_cmp ltA (E_var 3) (E_var 4)))) A_nil)))
 S_nil))
noncomputable def f_are_skips_value : Fn := mkFn 2 5 b_f_are_skips_value
noncomputable def b_f_need_skips : MS := (S_cons (S_expr (E_fn f_need_floor (A_cons (E_var 0) A_nil)))
 (S_cons (S_if (T_not (T_E (E_fn f_are_skips_value (A_cons (E_var 0) (A_cons (E_var 1) A_nil)))))
 (S_cons S_never
 S_nil)
 S_nil)
 S_nil))
noncomputable def f_need_skips : Fn := mkFn 2 2 b_f_need_skips
noncomputable def b_f_is_arrangement_value : MS := (S_cons (S_if (T_or (T_not (T_E (E_isa "tuple" (E_var 1)))) (T_cmp neC (E_fn lenF (A_cons (E_var 1) A_nil)) (E_var 0)))
 (S_cons (S_ret (E_c (.bl false)))
 S_nil)
 S_nil)
 (S_cons (S_ret (E_and (E_fn allF (A_cons (E_lc false [2] (I_seq (E_var 1)) (G_name 2) T_yes (E_fn f_is_between (A_cons (E_var 2) (A_cons (E_c (.int 0)) (A_cons (E2 subD (E_var 0) (E_c (.int 1))) A_nil))))) A_nil)) (E_T (T_cmp eqC (E1 lenSetI (E_var 1)) (E_var 0)))))
 S_nil))
noncomputable def f_is_arrangement_value : Fn := mkFn 2 3 b_f_is_arrangement_value
noncomputable def b_f_need_arrangement : MS := (S_cons (S_expr (E_fn f_need_floor (A_cons (E_var 0) A_nil)))
 (S_cons (S_if (T_not (T_E (E_fn f_is_arrangement_value (A_cons (E_fn sumA (A_cons (E_idx (E_var 0) (E_c (.int 0))) A_nil)) (A_cons (E_var 1) A_nil)))))
 (S_cons S_never
 S_nil)
 S_nil)
 S_nil))
noncomputable def f_need_arrangement : Fn := mkFn 2 2 b_f_need_arrangement
noncomputable def b_f_arranged : MS := (S_cons (S_set 2 (E2 (mulD true) (E_lst false (A_cons (E_c (.int 0)) A_nil)) (E_fn lenF (A_cons (E_var 1) A_nil))))
 (S_cons (S_for [3, 4] (I_enum (E_var 1)) (G_tup 2 (GS_cons (G_name 3) (GS_cons (G_name 4) GS_nil)))
 (S_cons (S_asg (E_idx (E_var 0) (E_var 3)) (G_sub (E_var 2) (E_var 4)))
 S_nil))
 (S_cons (S_ret (E_fn tupleF (A_cons (E_var 2) A_nil)))
 S_nil)))
noncomputable def f_arranged : Fn := mkFn 2 5 b_f_arranged
noncomputable def b_f_is_call : MS := (S_cons (S_if (T_or (T_not (T_E (E_isa "tuple" (E_var 1)))) (T_not (T_E (E_fn allF (A_cons (E_lc false [2] (I_seq (E_var 1)) (G_name 2) T_yes (E_fn f_is_between (A_cons (E_var 2) (A_cons (E_c (.int 0)) (A_cons (E2 subD (E_fn lenF (A_cons (E_idx (E_var 0) (E_c (.int 1))) A_nil)) (E_c (.int 1))) A_nil))))) A_nil)))))
 (S_cons (S_ret (E_c (.bl false)))
 S_nil)
 S_nil)
 (S_cons (S_ret (E_T (T_cmp eqC (E_fn (listF false) (A_cons (E_var 1) A_nil)) (E1 (sortSetI false) (E_var 1)))))
 S_nil))
noncomputable def f_is_call : Fn := mkFn 2 3 b_f_is_call
noncomputable def b_f_is_skip_step : MS := (S_cons (S_if (T_or (T_not (T_E (E_isa "tuple" (E_var 2)))) (T_or (T_cmp eqC (E_var 2) (E_tup A_nil)) (T_not (T_E (E_isa "str" (E_idx (E_var 2) (E_c (.int 0))))))))
 (S_cons (S_ret (E_c (.bl false)))
 S_nil)
 S_nil)
 (S_cons (S_if (T_cmp eqC (E_idx (E_var 2) (E_c (.int 0))) (E_c (.str "skip")))
 (S_cons (S_ret (E_and (E_T (T_cmp eqC (E_fn lenF (A_cons (E_var 2) A_nil)) (E_c (.int 2)))) (E_fn f_is_between (A_cons (E_idx (E_var 2) (E_c (.int 1))) (A_cons (E_c (.int 0)) (A_cons (E2 subD (E_fn lenF (A_cons (E_var 1) A_nil)) (E_c (.int 1))) A_nil))))))
 S_nil)
 S_nil)
 (S_cons (S_if (T_cmp eqC (E_idx (E_var 2) (E_c (.int 0))) (E_c (.str "beat")))
 (S_cons (S_ret (E_and (E_T (T_cmp eqC (E_fn lenF (A_cons (E_var 2) A_nil)) (E_c (.int 2)))) (E_fn f_is_call (A_cons (E_var 0) (A_cons (E_idx (E_var 2) (E_c (.int 1))) A_nil)))))
 S_nil)
 S_nil)
 (S_cons (S_ret (E_and (E_T (T_cmp eqC (E_idx (E_var 2) (E_c (.int 0))) (E_c (.str "times")))) (E_and (E_T (T_cmp eqC (E_fn lenF (A_cons (E_var 2) A_nil)) (E_c (.int 3)))) (E_fn f_is_from (A_cons (E_idx (E_var 2) (E_c (.int 1))) (A_cons (E_c (.int 0)) A_nil))))))
 S_nil))))
noncomputable def f_is_skip_step : Fn := mkFn 3 3 b_f_is_skip_step
noncomputable def b_f_is_skip_plan : MS := (S_cons (S_set 3 (E_lst true (A_cons (E_var 2) A_nil)))
 (S_cons (S_while [4] (T_cmp neC (E_var 3) (E_lst false A_nil))
 (S_cons (S_set 4 (E_mtL popM (E_var 3) A_nil))
 (S_cons (S_if (T_or (T_not (T_E (E_isa "tuple" (E_var 4)))) (T_not (T_E (E_fn allF (A_cons (E_lc false [5] (I_seq (E_var 4)) (G_name 5) T_yes (E_fn f_is_skip_step (A_cons (E_var 0) (A_cons (E_var 1) (A_cons (E_var 5) A_nil))))) A_nil)))))
 (S_cons (S_ret (E_c (.bl false)))
 S_nil)
 S_nil)
 (S_cons (S_expr (E_mtL extendM (E_var 3) (A_cons (E_lc false [5] (I_seq (E_var 4)) (G_name 5) (T_cmp eqC (E_idx (E_var 5) (E_c (.int 0))) (E_c (.str "times"))) (E_idx (E_var 5) (E_c (.int 2)))) A_nil)))
 S_nil))))
 (S_cons (S_ret (E_c (.bl true)))
 S_nil)))
noncomputable def f_is_skip_plan : Fn := mkFn 3 6 b_f_is_skip_plan
noncomputable def b_f_followed : MS := (S_cons (S_ret (E_lc false [2] (I_seq (E_var 0)) (G_name 2) T_yes (E_idx (E_var 1) (E_var 2))))
 S_nil)
noncomputable def f_followed : Fn := mkFn 2 3 b_f_followed
noncomputable def b_f_map_power : MS := (S_cons (S_par 2 3 (A_cons (E_listRg false (A_cons (E_fn lenF (A_cons (E_var 0) A_nil)) A_nil)) (A_cons (E_var 0) A_nil)))
 (S_cons (S_while [] (T_cmp (ltI fun i j => decide (j < i)) (E_var 1) (E_c (.int 0)))
 (S_cons (S_if (T_cmp eqC (E2 modD (E_var 1) (E_c (.int 2))) (E_c (.int 1)))
 (S_cons (S_set 2 (E_fn f_followed (A_cons (E_var 2) (A_cons (E_var 3) A_nil))))
 S_nil)
 S_nil)
 (S_cons (S_set 3 (E_fn f_followed (A_cons (E_var 3) (A_cons (E_var 3) A_nil))))
 (S_cons (S_set 1 (E2 divD (E_var 1) (E_c (.int 2))))
 S_nil))))
 (S_cons (S_ret (E_var 2))
 S_nil)))
noncomputable def f_map_power : Fn := mkFn 2 4 b_f_map_power
noncomputable def b_f_places_of : MS := (S_cons (S_ret (E_lc2 false [1, 2, 3] [3] (I_enum (E_var 0)) (G_tup 2 (GS_cons (G_name 1) (GS_cons (G_name 2) GS_nil))) T_yes (I_rng (A_cons (E_var 2) A_nil)) (G_name 3) T_yes (E_tup (A_cons (E_var 1) (A_cons (E_var 3) A_nil)))))
 S_nil)
noncomputable def f_places_of : Fn := mkFn 1 4 b_f_places_of
noncomputable def b_f_seat_of : MS := (S_cons (S_ret (E2 (addD false) (E_fn sumA (A_cons (E_slice false (E_var 0) O_none (O_some (E_idx (E_var 1) (E_c (.int 0))))) A_nil)) (E_idx (E_var 1) (E_c (.int 1)))))
 S_nil)
noncomputable def f_seat_of : Fn := mkFn 2 2 b_f_seat_of
noncomputable def b_f_place_behind : MS := (S_cons (S_ret (E_tup (A_cons (E_idx (E_var 1) (E_c (.int 0))) (A_cons (E2 modD (E2 (addD false) (E_idx (E_var 1) (E_c (.int 1))) (E_var 2)) (E_idx (E_var 0) (E_idx (E_var 1) (E_c (.int 0))))) A_nil))))
 S_nil)
noncomputable def f_place_behind : Fn := mkFn 3 3 b_f_place_behind
noncomputable def b_f_skip_map : MS := (S_cons (S_set 2 (E_lst true A_nil))
 (S_cons (S_for [3, 4] (I_enum (E_fn f_places_of (A_cons (E_idx (E_var 0) (E_c (.int 0))) A_nil))) (G_tup 2 (GS_cons (G_name 3) (GS_cons (G_name 4) GS_nil)))
 (S_cons (S_expr (E_mtL appendM (E_var 2) (A_cons (E_if (T_cmp eqC (E_idx (E_var 4) (E_c (.int 0))) (E_idx (E_var 1) (E_c (.int 0)))) (E_fn f_seat_of (A_cons (E_idx (E_var 0) (E_c (.int 0))) (A_cons (E_fn f_place_behind (A_cons (E_idx (E_var 0) (E_c (.int 0))) (A_cons (E_var 4) (A_cons (E_idx (E_var 1) (E_c (.int 1))) A_nil)))) A_nil))) (E_var 3)) A_nil)))
 S_nil))
 (S_cons (S_ret (E_frz 2))
 S_nil)))
noncomputable def f_skip_map : Fn := mkFn 2 5 b_f_skip_map
noncomputable def b_f_seat_touches : MS := (S_cons (S_ret (E_lc false [1, 2] (I_seq (E_idx (E_var 0) (E_c (.int 1)))) (G_tup 2 (GS_cons (G_name 1) (GS_cons (G_name 2) GS_nil))) T_yes (E_tup (A_cons (E_fn f_seat_of (A_cons (E_idx (E_var 0) (E_c (.int 0))) (A_cons (E_var 1) A_nil))) (A_cons (E_fn f_seat_of (A_cons (E_idx (E_var 0) (E_c (.int 0))) (A_cons (E_var 2) A_nil))) A_nil)))))
 S_nil)
noncomputable def f_seat_touches : Fn := mkFn 1 3 b_f_seat_touches
noncomputable def b_f_step_seats : MS := (S_cons (S_ret (E_lc false [2] (I_seq (E_fn f_places_of (A_cons (E_var 0) A_nil))) (G_name 2) T_yes (E_fn f_seat_of (A_cons (E_var 0) (A_cons (E_fn f_place_behind (A_cons (E_var 0) (A_cons (E_var 2) (A_cons (E_var 1) A_nil)))) A_nil)))))
 S_nil)
noncomputable def f_step_seats : Fn := mkFn 2 3 b_f_step_seats
noncomputable def b_f_call_map : MS := (S_cons (S_asg (E_tup (A_cons (E_dK0 true) (A_cons (E_fn f_seat_touches (A_cons (E_var 0) A_nil)) A_nil))) (G_tup 2 (GS_cons (G_name 2) (GS_cons (G_name 3) GS_nil))))
 (S_cons (S_for [4, 5, 6] (I_seq (E_var 1)) (G_name 4)
 (S_cons (S_asg (E_idx (E_var 3) (E_var 4)) (G_tup 2 (GS_cons (G_name 5) (GS_cons (G_name 6) GS_nil))))
 (S_cons (S_asg (E_var 6) (G_sub (E_var 2) (E_var 5)))
 (S_cons (S_asg (E_var 5) (G_sub (E_var 2) (E_var 6)))
 S_nil))))
 (S_cons (S_ret (E_lc false [7] (I_seq (E_fnD [(.int 1)] f_step_seats (A_cons (E_idx (E_var 0) (E_c (.int 0))) A_nil))) (G_name 7) T_yes (E_get2 (E_var 2) (E_var 7) (E_var 7))))
 S_nil)))
noncomputable def f_call_map : Fn := mkFn 2 8 b_f_call_map
noncomputable def gb_f_map_skipped (S : Fn) : MS := (S_cons (S_set 3 (E_listRg false (A_cons (E_fn sumA (A_cons (E_idx (E_var 0) (E_c (.int 0))) A_nil)) A_nil)))
 (S_cons (S_for [4] (I_seq (E_var 2)) (G_name 4)
 (S_cons (S_set 3 (E_fn f_followed (A_cons (E_var 3) (A_cons (E_fn S (A_cons (E_var 0) (A_cons (E_var 1) (A_cons (E_var 4) A_nil)))) A_nil))))
 S_nil))
 (S_cons (S_ret (E_var 3))
 S_nil)))
noncomputable def g_f_map_skipped (S : Fn) : Fn := mkFn 3 5 (gb_f_map_skipped S)
noncomputable def f_step_skipped : Nat → Fn
  | 0 => fun _ _ => .stuck
  | n + 1 => mkFn 3 3 (S_cons (S_if (T_cmp eqC (E_idx (E_var 2) (E_c (.int 0))) (E_c (.str "skip")))
 (S_cons (S_ret (E_fn f_skip_map (A_cons (E_var 0) (A_cons (E_idx (E_var 1) (E_idx (E_var 2) (E_c (.int 1)))) A_nil))))
 S_nil)
 S_nil)
 (S_cons (S_if (T_cmp eqC (E_idx (E_var 2) (E_c (.int 0))) (E_c (.str "beat")))
 (S_cons (S_ret (E_fn f_call_map (A_cons (E_var 0) (A_cons (E_idx (E_var 2) (E_c (.int 1))) A_nil))))
 S_nil)
 S_nil)
 (S_cons (S_ret (E_fn f_map_power (A_cons (E_fn (g_f_map_skipped (f_step_skipped n)) (A_cons (E_var 0) (A_cons (E_var 1) (A_cons (E_idx (E_var 2) (E_c (.int 2))) A_nil)))) (A_cons (E_idx (E_var 2) (E_c (.int 1))) A_nil))))
 S_nil)))
noncomputable def f_map_skipped : Fn := g_f_map_skipped (f_step_skipped 6)
noncomputable def b_f_skipped_after : MS := (S_cons (S_expr (E_fn f_need_skips (A_cons (E_var 0) (A_cons (E_var 1) A_nil))))
 (S_cons (S_expr (E_fn f_need_arrangement (A_cons (E_var 0) (A_cons (E_var 2) A_nil))))
 (S_cons (S_if (T_not (T_E (E_fn f_is_skip_plan (A_cons (E_var 0) (A_cons (E_var 1) (A_cons (E_var 3) A_nil))))))
 (S_cons S_never
 S_nil)
 S_nil)
 (S_cons (S_ret (E_fn f_arranged (A_cons (E_var 2) (A_cons (E_fn f_map_skipped (A_cons (E_var 0) (A_cons (E_var 1) (A_cons (E_var 3) A_nil)))) A_nil))))
 S_nil))))
noncomputable def f_skipped_after : Fn := mkFn 4 4 b_f_skipped_after
noncomputable def f_law_same : Nat → Fn
  | 0 => fun _ _ => .stuck
  | n + 1 => mkFn 2 4 (S_cons (S_if (T_E (E_isa "tuple" (E_var 1)))
 (S_cons (S_if (T_or (T_not (T_E (E_isa "tuple" (E_var 0)))) (T_cmp neC (E_fn lenF (A_cons (E_var 0) A_nil)) (E_fn lenF (A_cons (E_var 1) A_nil))))
 (S_cons (S_ret (E_c (.bl false)))
 S_nil)
 S_nil)
 (S_cons (S_ret (E_T (T_cmp eqC (E_lc false [2, 3] (I_zip (A_cons (E_var 0) (A_cons (E_var 1) A_nil))) (G_tup 2 (GS_cons (G_name 2) (GS_cons (G_name 3) GS_nil))) (T_not (T_E (E_fn (f_law_same n) (A_cons (E_var 2) (A_cons (E_var 3) A_nil))))) (E_c (.int 1))) (E_lst false A_nil))))
 S_nil))
 S_nil)
 (S_cons (S_if (T_cmp isC' (E_var 1) (E_c .non))
 (S_cons (S_ret (E_T (T_cmp isC' (E_var 0) (E_c .non))))
 S_nil)
 S_nil)
 (S_cons (S_if (T_or (T_cmp isC' (E_var 1) (E_c (.bl true))) (T_cmp isC' (E_var 1) (E_c (.bl false))))
 (S_cons (S_ret (E_and (E_isa "bool" (E_var 0)) (E_T (T_cmp eqC (E_var 0) (E_var 1)))))
 S_nil)
 S_nil)
 (S_cons (S_if (T_E (E_isa "str" (E_var 1)))
 (S_cons (S_ret (E_and (E_isa "str" (E_var 0)) (E_T (T_cmp eqC (E_var 0) (E_var 1)))))
 S_nil)
 S_nil)
 (S_cons (S_ret (E_and (E_isa "int" (E_var 0)) (E_and (E_not (E_isa "bool" (E_var 0))) (E_T (T_cmp eqC (E_var 0) (E_var 1))))))
 S_nil)))))
noncomputable def b_f_law_gcd : MS := (S_cons (S_while [] (T_cmp (ltI fun i j => decide (j < i)) (E_var 1) (E_c (.int 0)))
 (S_cons (S_par 0 1 (A_cons (E_var 1) (A_cons (E2 modD (E_fn intF (A_cons (E_var 0) A_nil)) (E_var 1)) A_nil)))
 S_nil))
 (S_cons (S_ret (E_var 0))
 S_nil))
noncomputable def f_law_gcd : Fn := mkFn 2 2 b_f_law_gcd
noncomputable def b_f_law_is_round : MS := (S_cons (S_if (T_cmp eqC (E_var 2) (E_tup A_nil))
 (S_cons (S_ret (E_c (.bl true)))
 S_nil)
 S_nil)
 (S_cons (S_par 4 5 (A_cons (E_fn f_law_draw (A_cons (E_var 0) (A_cons (E_fn lenF (A_cons (E_var 2) A_nil)) A_nil))) (A_cons (E_fn f_law_draw (A_cons (E_var 0) (A_cons (E_fn lenF (A_cons (E_var 2) A_nil)) A_nil))) A_nil)))
 (S_cons (S_set 6 (E_idx (E_idx (E_var 1) (E_c (.int 0))) (E_idx (E_idx (E_var 2) (E_var 4)) (E_c (.int 0)))))
 (S_cons (S_set 7 (E_tup (A_cons (E_tup (A_cons (E_c (.str "times")) (A_cons (E2 divD (E_var 6) (E_fn f_law_gcd (A_cons (E_var 6) (A_cons (E_idx (E_idx (E_var 2) (E_var 4)) (E_c (.int 1))) A_nil)))) (A_cons (E_tup (A_cons (E_tup (A_cons (E_c (.str "skip")) (A_cons (E_var 4) A_nil))) A_nil)) A_nil)))) A_nil)))
 (S_cons (S_if (T_not (T_E (E_fn (f_law_same 12) (A_cons (E_fn f_skipped_after (A_cons (E_var 1) (A_cons (E_var 2) (A_cons (E_var 3) (A_cons (E_var 7) A_nil))))) (A_cons (E_var 3) A_nil)))))
 (S_cons (S_ret (E_c (.bl false)))
 S_nil)
 S_nil)
 (S_cons (S_set 8 (E_fn f_skipped_after (A_cons (E_var 1) (A_cons (E_var 2) (A_cons (E_var 3) (A_cons (E_tup (A_cons (E_tup (A_cons (E_c (.str "skip")) (A_cons (E_var 4) A_nil))) (A_cons (E_tup (A_cons (E_c (.str "skip")) (A_cons (E_var 5) A_nil))) A_nil))) A_nil))))))
 (S_cons (S_ret (E_fn (f_law_same 12) (A_cons (E_fn f_skipped_after (A_cons (E_var 1) (A_cons (E_var 2) (A_cons (E_var 3) (A_cons (E_tup (A_cons (E_tup (A_cons (E_c (.str "skip")) (A_cons (E_var 5) A_nil))) (A_cons (E_tup (A_cons (E_c (.str "skip")) (A_cons (E_var 4) A_nil))) A_nil))) A_nil))))) (A_cons (E_var 8) A_nil))))
 S_nil)))))))
noncomputable def f_law_is_round : Fn := mkFn 4 9 b_f_law_is_round
noncomputable def b_f_law_table : MS := (S_cons (S_set 1 (E_fn f_law_places (A_cons (E_idx (E_var 0) (E_c (.int 0))) A_nil)))
 (S_cons (S_set 2 (E_fn (dictTF false) (A_cons (E_lc false [10, 11] (I_enum (E_var 1)) (G_tup 2 (GS_cons (G_name 10) (GS_cons (G_name 11) GS_nil))) T_yes (E_tup (A_cons (E_var 11) (A_cons (E_var 10) A_nil)))) A_nil)))
 (S_cons (S_set 3 (E_lc false [12, 13] (I_seq (E_var 1)) (G_tup 2 (GS_cons (G_name 12) (GS_cons (G_name 13) GS_nil))) T_yes (E_idx (E_var 2) (E_tup (A_cons (E_var 12) (A_cons (E_if (T_cmp (ltI fun i j => decide (i < j)) (E2 (addD false) (E_var 13) (E_c (.int 1))) (E_idx (E_idx (E_var 0) (E_c (.int 0))) (E_var 12))) (E2 (addD false) (E_var 13) (E_c (.int 1))) (E_c (.int 0))) A_nil))))))
 (S_cons (S_par 4 5 (A_cons (E2 (mulD true) (E_lst false (A_cons (E1 negD (E_c (.int 1))) A_nil)) (E_fn lenF (A_cons (E_var 1) A_nil))) (A_cons (E2 (mulD true) (E_lst false (A_cons (E1 negD (E_c (.int 1))) A_nil)) (E_fn lenF (A_cons (E_var 1) A_nil))) A_nil)))
 (S_cons (S_for [6, 7, 8, 9] (I_enum (E_idx (E_var 0) (E_c (.int 1)))) (G_tup 2 (GS_cons (G_name 6) (GS_cons (G_name 7) GS_nil)))
 (S_cons (S_par 8 9 (A_cons (E_idx (E_var 2) (E_idx (E_var 7) (E_c (.int 0)))) (A_cons (E_idx (E_var 2) (E_idx (E_var 7) (E_c (.int 1)))) A_nil)))
 (S_cons (S_asg (E_tup (A_cons (E_var 9) (A_cons (E_var 8) (A_cons (E_var 6) (A_cons (E_var 6) A_nil))))) (G_tup 4 (GS_cons (G_sub (E_var 4) (E_var 8)) (GS_cons (G_sub (E_var 4) (E_var 9)) (GS_cons (G_sub (E_var 5) (E_var 8)) (GS_cons (G_sub (E_var 5) (E_var 9)) GS_nil))))))
 S_nil)))
 (S_cons (S_ret (E_disp false (A_cons (E_c (.str "places")) (A_cons (E_var 1) (A_cons (E_c (.str "seats")) (A_cons (E_var 2) (A_cons (E_c (.str "behind")) (A_cons (E_var 3) (A_cons (E_c (.str "mates")) (A_cons (E_frz 4) (A_cons (E_c (.str "numbers")) (A_cons (E_frz 5) (A_cons (E_c (.str "floor")) (A_cons (E_var 0) A_nil))))))))))))))
 S_nil))))))
noncomputable def f_law_table : Fn := mkFn 1 14 b_f_law_table
noncomputable def b_f_law_skips : MS := (S_cons (S_set 3 (E_lst true A_nil))
 (S_cons (S_for [4, 5, 6] (I_rng (A_cons (E_fn f_law_draw (A_cons (E_var 0) (A_cons (E2 (addD false) (E_var 2) (E_c (.int 1))) A_nil))) A_nil)) (G_name 4)
 (S_cons (S_set 5 (E_fn f_law_draw (A_cons (E_var 0) (A_cons (E_fn lenF (A_cons (E_var 1) A_nil)) A_nil))))
 (S_cons (S_set 6 (E_fn f_law_pick (A_cons (E_var 0) (A_cons (E_lst false (A_cons (E_c (.int 1)) (A_cons (E_c (.int 2)) (A_cons (E_c (.int 3)) (A_cons (E_idx (E_var 1) (E_var 5)) (A_cons (E2 (mulD false) (E_c (.int 2)) (E_idx (E_var 1) (E_var 5))) (A_cons (E2 (addD false) (E_c (.int 1)) (E_fn f_law_draw (A_cons (E_var 0) (A_cons (E_c (.int 1000)) A_nil)))) (A_cons (E_fn (twoF true) (A_cons (E_c (.int 1)) (A_cons (E2 divD (E_idx (E_var 1) (E_var 5)) (E_c (.int 2))) A_nil))) (A_cons (E_c (.int 6)) A_nil))))))))) A_nil))))
 (S_cons (S_expr (E_mtL appendM (E_var 3) (A_cons (E_tup (A_cons (E_var 5) (A_cons (E_var 6) A_nil))) A_nil)))
 S_nil))))
 (S_cons (S_ret (E_fn tupleF (A_cons (E1 (sortSetT false) (E_var 3)) A_nil)))
 S_nil)))
noncomputable def f_law_skips : Fn := mkFn 3 7 b_f_law_skips
noncomputable def b_f_law_then : MS := (S_cons (S_ret (E_fn tupleF (A_cons (E_lc false [2] (I_seq (E_var 0)) (G_name 2) T_yes (E_idx (E_var 1) (E_var 2))) A_nil)))
 S_nil)
noncomputable def f_law_then : Fn := mkFn 2 3 b_f_law_then
noncomputable def b_f_law_beat : MS := (S_cons (S_ret (E_fn tupleF (A_cons (E_lc false [2] (I_seq (E_idx (E_var 0) (E_c (.str "behind")))) (G_name 2) T_yes (E_if (T_cmp inC (E_idx (E_idx (E_var 0) (E_c (.str "numbers"))) (E_var 2)) (E_var 1)) (E_idx (E_idx (E_var 0) (E_c (.str "mates"))) (E_var 2)) (E_var 2))) A_nil)))
 S_nil)
noncomputable def f_law_beat : Fn := mkFn 2 3 b_f_law_beat
noncomputable def b_f_law_power : MS := (S_cons (S_set 2 (E_tupRg (A_cons (E_fn lenF (A_cons (E_var 0) A_nil)) A_nil)))
 (S_cons (S_while [] (T_cmp (ltI fun i j => decide (j < i)) (E_var 1) (E_c (.int 0)))
 (S_cons (S_if (T_cmp eqC (E2 andD (E_var 1) (E_c (.int 1))) (E_c (.int 1)))
 (S_cons (S_set 2 (E_fn f_law_then (A_cons (E_var 2) (A_cons (E_var 0) A_nil))))
 S_nil)
 S_nil)
 (S_cons (S_par 0 1 (A_cons (E_fn f_law_then (A_cons (E_var 0) (A_cons (E_var 0) A_nil))) (A_cons (E2 divD (E_var 1) (E_c (.int 2))) A_nil)))
 S_nil)))
 (S_cons (S_ret (E_var 2))
 S_nil)))
noncomputable def f_law_power : Fn := mkFn 2 3 b_f_law_power
noncomputable def b_f_law_skip : MS := (S_cons (S_par 3 4 (A_cons (E_idx (E_idx (E_idx (E_var 0) (E_c (.str "floor"))) (E_c (.int 0))) (E_var 1)) (A_cons (E_lst true A_nil) A_nil)))
 (S_cons (S_for [5, 6] (I_seq (E_idx (E_var 0) (E_c (.str "places")))) (G_tup 2 (GS_cons (G_name 5) (GS_cons (G_name 6) GS_nil)))
 (S_cons (S_expr (E_mtL appendM (E_var 4) (A_cons (E_idx (E_idx (E_var 0) (E_c (.str "seats"))) (E_tup (A_cons (E_var 5) (A_cons (E_if (T_cmp eqC (E_var 5) (E_var 1)) (E2 modD (E_fn intF (A_cons (E2 (addD false) (E_var 6) (E_var 2)) A_nil)) (E_var 3)) (E_var 6)) A_nil)))) A_nil)))
 S_nil))
 (S_cons (S_ret (E_fn tupleF (A_cons (E_var 4) A_nil)))
 S_nil)))
noncomputable def f_law_skip : Fn := mkFn 3 7 b_f_law_skip
noncomputable def f_law_map : Nat → Fn
  | 0 => fun _ _ => .stuck
  | n + 1 => mkFn 3 5 (S_cons (S_set 3 (E_tupRg (A_cons (E_fn lenF (A_cons (E_idx (E_var 0) (E_c (.str "places"))) A_nil)) A_nil)))
 (S_cons (S_for [4] (I_seq (E_var 2)) (G_name 4)
 (S_cons (S_if (T_cmp eqC (E_idx (E_var 4) (E_c (.int 0))) (E_c (.str "beat")))
 (S_cons (S_set 3 (E_fn f_law_then (A_cons (E_var 3) (A_cons (E_fn f_law_beat (A_cons (E_var 0) (A_cons (E_idx (E_var 4) (E_c (.int 1))) A_nil))) A_nil))))
 S_nil)
 (S_cons (S_if (T_cmp eqC (E_idx (E_var 4) (E_c (.int 0))) (E_c (.str "times")))
 (S_cons (S_set 3 (E_fn f_law_then (A_cons (E_var 3) (A_cons (E_fn f_law_power (A_cons (E_fn (f_law_map n) (A_cons (E_var 0) (A_cons (E_var 1) (A_cons (E_idx (E_var 4) (E_c (.int 2))) A_nil)))) (A_cons (E_idx (E_var 4) (E_c (.int 1))) A_nil))) A_nil))))
 S_nil)
 (S_cons (S_set 3 (E_fn f_law_then (A_cons (E_var 3) (A_cons (E_fn f_law_skip (A_cons (E_var 0) (A_cons (E_idx (E_idx (E_var 1) (E_idx (E_var 4) (E_c (.int 1)))) (E_c (.int 0))) (A_cons (E_idx (E_idx (E_var 1) (E_idx (E_var 4) (E_c (.int 1)))) (E_c (.int 1))) A_nil)))) A_nil))))
 S_nil))
 S_nil))
 S_nil))
 (S_cons (S_ret (E_var 3))
 S_nil)))
noncomputable def b_f_is_step : MS := (S_cons (S_if (T_or (T_not (T_E (E_isa "tuple" (E_var 1)))) (T_or (T_cmp eqC (E_var 1) (E_tup A_nil)) (T_not (T_E (E_isa "str" (E_idx (E_var 1) (E_c (.int 0))))))))
 (S_cons (S_ret (E_c (.bl false)))
 S_nil)
 S_nil)
 (S_cons (S_if (T_cmp eqC (E_idx (E_var 1) (E_c (.int 0))) (E_c (.str "beat")))
 (S_cons (S_ret (E_and (E_T (T_cmp eqC (E_fn lenF (A_cons (E_var 1) A_nil)) (E_c (.int 2)))) (E_fn f_is_call (A_cons (E_var 0) (A_cons (E_idx (E_var 1) (E_c (.int 1))) A_nil)))))
 S_nil)
 S_nil)
 (S_cons (S_ret (E_and (E_T (T_cmp eqC (E_idx (E_var 1) (E_c (.int 0))) (E_c (.str "times")))) (E_and (E_T (T_cmp eqC (E_fn lenF (A_cons (E_var 1) A_nil)) (E_c (.int 3)))) (E_fn f_is_from (A_cons (E_idx (E_var 1) (E_c (.int 1))) (A_cons (E_c (.int 0)) A_nil))))))
 S_nil)))
noncomputable def f_is_step : Fn := mkFn 2 2 b_f_is_step
noncomputable def b_f_is_plan_value : MS := (S_cons (S_set 2 (E_lst true (A_cons (E_var 1) A_nil)))
 (S_cons (S_while [3] (T_cmp neC (E_var 2) (E_lst false A_nil))
 (S_cons (S_set 3 (E_mtL popM (E_var 2) A_nil))
 (S_cons (S_if (T_or (T_not (T_E (E_isa "tuple" (E_var 3)))) (T_not (T_E (E_fn allF (A_cons (E_lc false [4] (I_seq (E_var 3)) (G_name 4) T_yes (E_fn f_is_step (A_cons (E_var 0) (A_cons (E_var 4) A_nil)))) A_nil)))))
 (S_cons (S_ret (E_c (.bl false)))
 S_nil)
 S_nil)
 (S_cons (S_expr (E_mtL extendM (E_var 2) (A_cons (E_lc false [4] (I_seq (E_var 3)) (G_name 4) (T_cmp eqC (E_idx (E_var 4) (E_c (.int 0))) (E_c (.str "times"))) (E_idx (E_var 4) (E_c (.int 2)))) A_nil)))
 S_nil))))
 (S_cons (S_ret (E_c (.bl true)))
 S_nil)))
noncomputable def f_is_plan_value : Fn := mkFn 2 5 b_f_is_plan_value
noncomputable def b_f_need_plan : MS := (S_cons (S_expr (E_fn f_need_floor (A_cons (E_var 0) A_nil)))
 (S_cons (S_if (T_not (T_E (E_fn f_is_plan_value (A_cons (E_var 0) (A_cons (E_var 1) A_nil)))))
 (S_cons S_never
 S_nil)
 S_nil)
 S_nil))
noncomputable def f_need_plan : Fn := mkFn 2 2 b_f_need_plan
noncomputable def gb_f_map_of (S : Fn) : MS := (S_cons (S_set 2 (E_listRg false (A_cons (E_fn sumA (A_cons (E_idx (E_var 0) (E_c (.int 0))) A_nil)) A_nil)))
 (S_cons (S_for [3] (I_seq (E_var 1)) (G_name 3)
 (S_cons (S_set 2 (E_fn f_followed (A_cons (E_var 2) (A_cons (E_fn S (A_cons (E_var 0) (A_cons (E_var 3) A_nil))) A_nil))))
 S_nil))
 (S_cons (S_ret (E_var 2))
 S_nil)))
noncomputable def g_f_map_of (S : Fn) : Fn := mkFn 2 4 (gb_f_map_of S)
noncomputable def f_step_map : Nat → Fn
  | 0 => fun _ _ => .stuck
  | n + 1 => mkFn 2 2 (S_cons (S_ret (E_if (T_cmp eqC (E_idx (E_var 1) (E_c (.int 0))) (E_c (.str "beat"))) (E_fn f_call_map (A_cons (E_var 0) (A_cons (E_idx (E_var 1) (E_c (.int 1))) A_nil))) (E_fn f_map_power (A_cons (E_fn (g_f_map_of (f_step_map n)) (A_cons (E_var 0) (A_cons (E_idx (E_var 1) (E_c (.int 2))) A_nil))) (A_cons (E_idx (E_var 1) (E_c (.int 1))) A_nil)))))
 S_nil)
noncomputable def f_map_of : Fn := g_f_map_of (f_step_map 6)
noncomputable def b_f_after : MS := (S_cons (S_expr (E_fn f_need_arrangement (A_cons (E_var 0) (A_cons (E_var 1) A_nil))))
 (S_cons (S_expr (E_fn f_need_plan (A_cons (E_var 0) (A_cons (E_var 2) A_nil))))
 (S_cons (S_ret (E_fn f_arranged (A_cons (E_var 1) (A_cons (E_fn f_map_of (A_cons (E_var 0) (A_cons (E_var 2) A_nil))) A_nil))))
 S_nil)))
noncomputable def f_after : Fn := mkFn 3 3 b_f_after
noncomputable def b_f_law : MS := (S_cons (S_set 1 (E_fn f_law_deck (A_cons (E_var 0) (A_cons (E_c (.int 78)) A_nil))))
 (S_cons (S_set 2 (E_fn f_law_floor (A_cons (E_var 1) (A_cons (E_fn f_law_pick (A_cons (E_var 1) (A_cons (E_lst false (A_cons (E_c (.int 10)) (A_cons (E_c (.int 6)) (A_cons (E_c (.int 8)) (A_cons (E_c (.int 5)) A_nil))))) A_nil))) (A_cons (E_c (.int 5)) A_nil)))))
 (S_cons (S_par 3 4 (A_cons (E_fn f_law_table (A_cons (E_var 2) A_nil)) (A_cons (E_fn f_law_skips (A_cons (E_var 1) (A_cons (E_idx (E_var 2) (E_c (.int 0))) (A_cons (E_c (.int 4)) A_nil)))) A_nil)))
 (S_cons (S_set 5 (E_fn f_law_order (A_cons (E_var 1) (A_cons (E_fn lenF (A_cons (E_idx (E_var 3) (E_c (.str "places"))) A_nil)) A_nil))))
 (S_cons (S_par 6 7 (A_cons (E_fn (f_law_plan 6) (A_cons (E_var 1) (A_cons (E_var 3) (A_cons (E_var 4) (A_cons (E_c (.int 2)) (A_cons (E_c (.int 4)) A_nil)))))) (A_cons (E_fn (f_law_plan 6) (A_cons (E_var 1) (A_cons (E_var 3) (A_cons (E_var 4) (A_cons (E_c (.int 2)) (A_cons (E_c (.int 4)) A_nil)))))) A_nil)))
 (S_cons (S_set 8 (E_fn f_law_led (A_cons (E_var 5) (A_cons (E_fn (f_law_map 6) (A_cons (E_var 3) (A_cons (E_var 4) (A_cons (E_var 6) A_nil)))) A_nil))))
 (S_cons (S_if (T_not (T_E (E_fn (f_law_same 12) (A_cons (E_fn f_skipped_after (A_cons (E_var 2) (A_cons (E_var 4) (A_cons (E_var 5) (A_cons (E_var 6) A_nil))))) (A_cons (E_var 8) A_nil)))))
 (S_cons (S_ret (E_c (.bl false)))
 S_nil)
 S_nil)
 (S_cons (S_set 9 (E_fn f_law_led (A_cons (E_var 8) (A_cons (E_fn (f_law_map 6) (A_cons (E_var 3) (A_cons (E_var 4) (A_cons (E_var 7) A_nil)))) A_nil))))
 (S_cons (S_if (T_not (T_E (E_fn (f_law_same 12) (A_cons (E_fnK [3, 2, 1, 0] f_skipped_after (A_cons (E2 (addD false) (E_var 6) (E_var 7)) (A_cons (E_var 5) (A_cons (E_var 4) (A_cons (E_var 2) A_nil))))) (A_cons (E_var 9) A_nil)))))
 (S_cons (S_ret (E_c (.bl false)))
 S_nil)
 S_nil)
 (S_cons (S_if (T_not (T_E (E_fn (f_law_same 12) (A_cons (E_fn f_skipped_after (A_cons (E_var 2) (A_cons (E_var 4) (A_cons (E_var 8) (A_cons (E_var 7) A_nil))))) (A_cons (E_var 9) A_nil)))))
 (S_cons (S_ret (E_c (.bl false)))
 S_nil)
 S_nil)
 (S_cons (S_set 10 (E_fn f_law_pick (A_cons (E_var 1) (A_cons (E_lst false (A_cons (E_c (.int 0)) (A_cons (E_c (.int 1)) (A_cons (E_c (.int 2)) (A_cons (E2 powD (E_c (.int 10)) (E_c (.int 6))) (A_cons (E_c (.int 7)) A_nil)))))) A_nil))))
 (S_cons (S_set 8 (E_fn f_law_led (A_cons (E_var 5) (A_cons (E_fn f_law_power (A_cons (E_fn (f_law_map 6) (A_cons (E_var 3) (A_cons (E_var 4) (A_cons (E_var 6) A_nil)))) (A_cons (E_var 10) A_nil))) A_nil))))
 (S_cons (S_if (T_not (T_E (E_fn (f_law_same 12) (A_cons (E_fn f_skipped_after (A_cons (E_var 2) (A_cons (E_var 4) (A_cons (E_var 5) (A_cons (E_tup (A_cons (E_tup (A_cons (E_c (.str "times")) (A_cons (E_var 10) (A_cons (E_var 6) A_nil)))) A_nil)) A_nil))))) (A_cons (E_var 8) A_nil)))))
 (S_cons (S_ret (E_c (.bl false)))
 S_nil)
 S_nil)
 (S_cons (S_set 11 (E_fn (f_law_plan 6) (A_cons (E_var 1) (A_cons (E_var 3) (A_cons (E_tup A_nil) (A_cons (E_c (.int 2)) (A_cons (E_c (.int 4)) A_nil)))))))
 (S_cons (S_if (T_not (T_E (E_fn (f_law_same 12) (A_cons (E_fn f_skipped_after (A_cons (E_var 2) (A_cons (E_var 4) (A_cons (E_var 5) (A_cons (E_var 11) A_nil))))) (A_cons (E_fn f_after (A_cons (E_var 2) (A_cons (E_var 5) (A_cons (E_var 11) A_nil)))) A_nil)))))
 (S_cons (S_ret (E_c (.bl false)))
 S_nil)
 S_nil)
 (S_cons (S_set 12 (E_fn tupleF (A_cons (E_lc false [14] (I_rng (A_cons (E_fn lenF (A_cons (E_idx (E_var 2) (E_c (.int 0))) A_nil)) A_nil)) (G_name 14) T_yes (E_tup (A_cons (E_var 14) (A_cons (E_c (.int 1)) A_nil)))) A_nil)))
 (S_cons (S_set 13 (E_fn tupleF (A_cons (E_lc false [14] (I_rng (A_cons (E_fn lenF (A_cons (E_idx (E_var 2) (E_c (.int 0))) A_nil)) A_nil)) (G_name 14) T_yes (E_tup (A_cons (E_c (.str "skip")) (A_cons (E_var 14) A_nil)))) A_nil)))
 (S_cons (S_if (T_not (T_E (E_fn (f_law_same 12) (A_cons (E_fn f_skipped_after (A_cons (E_var 2) (A_cons (E_var 12) (A_cons (E_var 5) (A_cons (E_var 13) A_nil))))) (A_cons (E_fn f_after (A_cons (E_var 2) (A_cons (E_var 5) (A_cons (E_tup (A_cons (E_tup (A_cons (E_c (.str "beat")) (A_cons (E_tup A_nil) A_nil))) A_nil)) A_nil)))) A_nil)))))
 (S_cons (S_ret (E_c (.bl false)))
 S_nil)
 S_nil)
 (S_cons (S_ret (E_fn f_law_is_round (A_cons (E_var 1) (A_cons (E_var 2) (A_cons (E_var 4) (A_cons (E_var 5) A_nil))))))
 S_nil)))))))))))))))))))
noncomputable def f_law : Fn := mkFn 1 15 b_f_law
structure Top (K : PySem.W.Frag) (mg : Str → Option Value) : Prop where
  b_all : mg "all" = none
  b_bool : mg "bool" = none
  b_dict : mg "dict" = none
  b_enumerate : mg "enumerate" = none
  b_int : mg "int" = none
  b_isinstance : mg "isinstance" = none
  b_len : mg "len" = none
  b_list : mg "list" = none
  b_max : mg "max" = none
  b_min : mg "min" = none
  b_range : mg "range" = none
  b_set : mg "set" = none
  b_sorted : mg "sorted" = none
  b_str : mg "str" = none
  b_sum : mg "sum" = none
  b_tuple : mg "tuple" = none
  b_zip : mg "zip" = none
  k_BEAT : ∃ t, mg "BEAT" = some (.str "beat" t)
  k_MOST_RINGS : ∃ t, mg "MOST_RINGS" = some (.int 40 t)
  k_MOST_SKIP : ∃ t, mg "MOST_SKIP" = some (.int 1000 t)
  k_SKIP : ∃ t, mg "SKIP" = some (.str "skip" t)
  k_TIMES : ∃ t, mg "TIMES" = some (.str "times" t)
  d_f_law_deck : ∃ f fd, C8.Def K mg "_law_deck" (topS 54) f fd ∧ Binds K fd ["_law_script", "_law_salt"] []
  d_f_law_places : ∃ f fd, C8.Def K mg "_law_places" (topS 60) f fd ∧ Binds K fd ["_law_rings"] []
  d_f_law_draw : ∃ f fd, C8.Def K mg "_law_draw" (topS 55) f fd ∧ Binds K fd ["_law_deck_here", "_law_below"] []
  d_f_law_pick : ∃ f fd, C8.Def K mg "_law_pick" (topS 56) f fd ∧ Binds K fd ["_law_deck_here", "_law_some"] []
  d_f_law_touched : ∃ f fd, C8.Def K mg "_law_touched" (topS 62) f fd ∧ Binds K fd ["_law_places_here", "_law_order_here", "_law_many"] []
  d_f_law_order : ∃ f fd, C8.Def K mg "_law_order" (topS 58) f fd ∧ Binds K fd ["_law_deck_here", "_law_n"] []
  d_f_law_floor : ∃ f fd, C8.Def K mg "_law_floor" (topS 63) f fd ∧ Binds K fd ["_law_deck_here", "_law_most", "_law_many"] []
  d_f_law_led : ∃ f fd, C8.Def K mg "_law_led" (topS 67) f fd ∧ Binds K fd ["_law_arrangement", "_law_to"] []
  d_f_law_call : ∃ f fd, C8.Def K mg "_law_call" (topS 70) f fd ∧ Binds K fd ["_law_deck_here", "_law_table_here"] []
  d_f_law_plan : ∃ f fd, C8.Def K mg "_law_plan" (topS 71) f fd ∧ Binds K fd ["_law_deck_here", "_law_table_here", "_law_skips_here", "_law_deep", "_law_many"] []
  d_f_is_pair : ∃ f fd, C8.Def K mg "is_pair" (topS 11) f fd ∧ Binds K fd ["thing"] []
  d_f_is_integer : ∃ f fd, C8.Def K mg "is_integer" (topS 8) f fd ∧ Binds K fd ["thing"] []
  d_f_is_from : ∃ f fd, C8.Def K mg "is_from" (topS 9) f fd ∧ Binds K fd ["thing", "least"] []
  d_f_are_rings_value : ∃ f fd, C8.Def K mg "are_rings_value" (topS 12) f fd ∧ Binds K fd ["thing"] []
  d_f_is_between : ∃ f fd, C8.Def K mg "is_between" (topS 10) f fd ∧ Binds K fd ["thing", "least", "most"] []
  d_f_is_place_of : ∃ f fd, C8.Def K mg "is_place_of" (topS 13) f fd ∧ Binds K fd ["rings", "thing"] []
  d_f_is_touch_of : ∃ f fd, C8.Def K mg "is_touch_of" (topS 14) f fd ∧ Binds K fd ["rings", "thing"] []
  d_f_are_touches_of : ∃ f fd, C8.Def K mg "are_touches_of" (topS 15) f fd ∧ Binds K fd ["rings", "thing"] []
  d_f_is_floor_value : ∃ f fd, C8.Def K mg "is_floor_value" (topS 16) f fd ∧ Binds K fd ["thing"] []
  d_f_need_floor : ∃ f fd, C8.Def K mg "need_floor" (topS 17) f fd ∧ Binds K fd ["floor"] []
  d_f_is_skip_of : ∃ f fd, C8.Def K mg "is_skip_of" (topS 41) f fd ∧ Binds K fd ["floor", "thing"] []
  d_f_are_skips_value : ∃ f fd, C8.Def K mg "are_skips_value" (topS 42) f fd ∧ Binds K fd ["floor", "thing"] []
  d_f_need_skips : ∃ f fd, C8.Def K mg "need_skips" (topS 49) f fd ∧ Binds K fd ["floor", "skips"] []
  d_f_is_arrangement_value : ∃ f fd, C8.Def K mg "is_arrangement_value" (topS 26) f fd ∧ Binds K fd ["many", "thing"] []
  d_f_need_arrangement : ∃ f fd, C8.Def K mg "need_arrangement" (topS 27) f fd ∧ Binds K fd ["floor", "arrangement"] []
  d_f_arranged : ∃ f fd, C8.Def K mg "arranged" (topS 37) f fd ∧ Binds K fd ["arrangement", "lead"] []
  d_f_is_call : ∃ f fd, C8.Def K mg "is_call" (topS 28) f fd ∧ Binds K fd ["floor", "thing"] []
  d_f_is_skip_step : ∃ f fd, C8.Def K mg "is_skip_step" (topS 43) f fd ∧ Binds K fd ["floor", "skips", "thing"] []
  d_f_is_skip_plan : ∃ f fd, C8.Def K mg "is_skip_plan" (topS 44) f fd ∧ Binds K fd ["floor", "skips", "thing"] []
  d_f_followed : ∃ f fd, C8.Def K mg "followed" (topS 32) f fd ∧ Binds K fd ["first", "second"] []
  d_f_map_power : ∃ f fd, C8.Def K mg "map_power" (topS 33) f fd ∧ Binds K fd ["lead", "k"] []
  d_f_places_of : ∃ f fd, C8.Def K mg "places_of" (topS 18) f fd ∧ Binds K fd ["rings"] []
  d_f_seat_of : ∃ f fd, C8.Def K mg "seat_of" (topS 19) f fd ∧ Binds K fd ["rings", "place"] []
  d_f_place_behind : ∃ f fd, C8.Def K mg "place_behind" (topS 20) f fd ∧ Binds K fd ["rings", "place", "k"] []
  d_f_skip_map : ∃ f fd, C8.Def K mg "skip_map" (topS 45) f fd ∧ Binds K fd ["floor", "skip"] []
  d_f_seat_touches : ∃ f fd, C8.Def K mg "seat_touches" (topS 22) f fd ∧ Binds K fd ["floor"] []
  d_f_step_seats : ∃ f fd, C8.Def K mg "step_seats" (topS 21) f fd ∧ (∃ ds, Vals [.int 1] ds ∧ Binds K fd ["rings", "k"] ds)
  d_f_call_map : ∃ f fd, C8.Def K mg "call_map" (topS 34) f fd ∧ Binds K fd ["floor", "call"] []
  d_f_step_skipped : ∃ f fd, C8.Def K mg "step_skipped" (topS 46) f fd ∧ Binds K fd ["floor", "skips", "step"] []
  d_f_map_skipped : ∃ f fd, C8.Def K mg "map_skipped" (topS 47) f fd ∧ Binds K fd ["floor", "skips", "plan"] []
  d_f_skipped_after : ∃ f fd, C8.Def K mg "skipped_after" (topS 50) f fd ∧ Binds K fd ["floor", "skips", "arrangement", "plan"] [] ∧ BindsK fd ["plan", "arrangement", "skips", "floor"] ["floor", "skips", "arrangement", "plan"] [3, 2, 1, 0]
  d_f_law_same : ∃ f fd, C8.Def K mg "_law_same" (topS 57) f fd ∧ Binds K fd ["_law_one", "_law_due"] []
  d_f_law_gcd : ∃ f fd, C8.Def K mg "_law_gcd" (topS 59) f fd ∧ Binds K fd ["_law_a", "_law_b"] []
  d_f_law_is_round : ∃ f fd, C8.Def K mg "_law_is_round" (topS 73) f fd ∧ Binds K fd ["_law_deck_here", "_law_floor_here", "_law_skips_here", "_law_one"] []
  d_f_law_table : ∃ f fd, C8.Def K mg "_law_table" (topS 61) f fd ∧ Binds K fd ["_law_floor_here"] []
  d_f_law_skips : ∃ f fd, C8.Def K mg "_law_skips" (topS 72) f fd ∧ Binds K fd ["_law_deck_here", "_law_rings", "_law_most"] []
  d_f_law_then : ∃ f fd, C8.Def K mg "_law_then" (topS 65) f fd ∧ Binds K fd ["_law_one", "_law_other"] []
  d_f_law_beat : ∃ f fd, C8.Def K mg "_law_beat" (topS 64) f fd ∧ Binds K fd ["_law_table_here", "_law_call_here"] []
  d_f_law_power : ∃ f fd, C8.Def K mg "_law_power" (topS 66) f fd ∧ Binds K fd ["_law_one", "_law_k"] []
  d_f_law_skip : ∃ f fd, C8.Def K mg "_law_skip" (topS 68) f fd ∧ Binds K fd ["_law_table_here", "_law_ring", "_law_times"] []
  d_f_law_map : ∃ f fd, C8.Def K mg "_law_map" (topS 69) f fd ∧ Binds K fd ["_law_table_here", "_law_skips_here", "_law_plan_here"] []
  d_f_is_step : ∃ f fd, C8.Def K mg "is_step" (topS 29) f fd ∧ Binds K fd ["floor", "thing"] []
  d_f_is_plan_value : ∃ f fd, C8.Def K mg "is_plan_value" (topS 30) f fd ∧ Binds K fd ["floor", "thing"] []
  d_f_need_plan : ∃ f fd, C8.Def K mg "need_plan" (topS 31) f fd ∧ Binds K fd ["floor", "plan"] []
  d_f_step_map : ∃ f fd, C8.Def K mg "step_map" (topS 35) f fd ∧ Binds K fd ["floor", "step"] []
  d_f_map_of : ∃ f fd, C8.Def K mg "map_of" (topS 36) f fd ∧ Binds K fd ["floor", "plan"] []
  d_f_after : ∃ f fd, C8.Def K mg "after" (topS 52) f fd ∧ Binds K fd ["floor", "arrangement", "plan"] []
section
variable {P : Program} {w : World} {K : PySem.W.Frag} {mg : Str → Option Value} {base : Heap}
theorem c_f_law_deck (g : Top K mg) : C8.Cal P w K mg base 1 "_law_deck" (spF K f_law_deck) [] := by
  obtain ⟨f, fd, D, b⟩ := g.d_f_law_deck
  have nd : (["_law_script", "_law_salt", "_law_mixed", "_law_cell"] : List Str).Nodup := by decide +kernel
  exact cal_fnL (N := ["_law_script", "_law_salt", "_law_mixed", "_law_cell"]) (ps := ["_law_script", "_law_salt"]) D b (C8.fnScope_by (by decide +kernel)) rfl rfl fun cdv A outer s H E hr => by
    have hu : (A.deeper (envOfC "_law_deck" (C8.fnScope (topS 54)) s.heap.objs.size f cdv)).units + 65 < cLine := by have := hr.un; omega
    have hu64 : (A.deeper (envOfC "_law_deck" (C8.fnScope (topS 54)) s.heap.objs.size f cdv)).units + 64 < cLine := by omega
    have hu1 : (A.deeper (envOfC "_law_deck" (C8.fnScope (topS 54)) s.heap.objs.size f cdv)).units + 1 < cLine := by omega
    exact (pms_cons (pms_set 2 nd (pm_add false pm_int (pm_var 1)))
 (pms_cons (pms_for [] PassesOwn.never rfl (pmi_seq (pm_slice false (pm_var 0) pmo_none (pmo_some pm_int))) (pmg_name (vs := [3]) 3 nd)
 (pms_cons (pms_set 2 nd (pm_mod (pm_callTy call_int1 calls_int (pma_cons (pm_add false (pm_add false (pm_mul false (pm_var 2) pm_int) (pm_mod (pm_callTy call_int1 calls_int (pma_cons (pm_var 3) pma_nil) g.b_int) pm_int)) pm_int) pma_nil) g.b_int) pm_int))
 pms_nil))
 (pms_cons (pms_ret (pm_disp true hu (ppm_cons pm_str (pm_rev true (pm_lc false [("_law_cell", 3)] rfl nd (blkOk_by (by kernel_rfl)) (pmi_seq (pm_slice false (pm_var 0) pmo_none (pmo_some pm_int))) (fun _ _ _ _ _ => (pmg_name (vs := [3]) 3 nd)) (fun _ _ _ _ _ => pmts_nil) (fun _ _ _ _ _ => (pm_callTy call_int1 calls_int (pma_cons (pm_var 3) pma_nil) g.b_int)))) (ppm_cons pm_str (pm_var 2) (ppm_cons pm_str pm_int ppm_nil)))))
 pms_nil)))
theorem c_f_law_places (g : Top K mg) : C8.Cal P w K mg base 1 "_law_places" (spF K f_law_places) [] := by
  obtain ⟨f, fd, D, b⟩ := g.d_f_law_places
  have nd : (["_law_rings", "_law_found", "_law_u", "_law_many", "_law_i"] : List Str).Nodup := by decide +kernel
  exact cal_fn (N := ["_law_rings", "_law_found", "_law_u", "_law_many", "_law_i"]) (ps := ["_law_rings"]) D b (C8.fnScope_by (by decide +kernel)) rfl rfl fun cdv A outer s H E hr => by
    have hu : (A.deeper (envOfC "_law_places" (C8.fnScope (topS 60)) s.heap.objs.size f cdv)).units + 65 < cLine := by have := hr.un; omega
    have hu64 : (A.deeper (envOfC "_law_places" (C8.fnScope (topS 60)) s.heap.objs.size f cdv)).units + 64 < cLine := by omega
    have hu1 : (A.deeper (envOfC "_law_places" (C8.fnScope (topS 60)) s.heap.objs.size f cdv)).units + 1 < cLine := by omega
    exact (pms_cons (pms_set 1 nd (pm_lst true pma_nil))
 (pms_cons (pms_for [2, 3] PassesOwn.never rfl (pmi_enum (pm_var 0) g.b_enumerate) (pmg_tup rfl (pmgs_cons (pmg_name (vs := [2, 3]) 2 nd) (pmgs_cons (pmg_name (vs := [2, 3]) 3 nd) pmgs_nil)))
 (pms_cons (pms_expr (pm_mtL slot_extend ty_extend mt_extend mts_extend (pm_var 1) (pma_cons (pm_lc false [("_law_i", 4)] rfl nd (blkOk_by (by kernel_rfl)) (pmi_rng1 (pma_cons (pm_var 3) pma_nil) g.b_range) (fun _ _ _ _ _ => (pmg_name (vs := [4]) 4 nd)) (fun _ _ _ _ _ => pmts_nil) (fun _ _ _ _ _ => (pm_tup (pma_cons (pm_var 2) (pma_cons (pm_var 4) pma_nil))))) pma_nil)))
 pms_nil))
 (pms_cons (pms_ret (pm_frz 1))
 pms_nil)))
theorem c_f_law_draw (g : Top K mg) : C8.Cal P w K mg base 1 "_law_draw" (spF K f_law_draw) [] := by
  obtain ⟨f, fd, D, b⟩ := g.d_f_law_draw
  have nd : (["_law_deck_here", "_law_below", "_law_figure", "_law_cell"] : List Str).Nodup := by decide +kernel
  exact cal_fn (N := ["_law_deck_here", "_law_below", "_law_figure", "_law_cell"]) (ps := ["_law_deck_here", "_law_below"]) D b (C8.fnScope_by (by decide +kernel)) rfl rfl fun cdv A outer s H E hr => by
    have hu : (A.deeper (envOfC "_law_draw" (C8.fnScope (topS 55)) s.heap.objs.size f cdv)).units + 65 < cLine := by have := hr.un; omega
    have hu64 : (A.deeper (envOfC "_law_draw" (C8.fnScope (topS 55)) s.heap.objs.size f cdv)).units + 64 < cLine := by omega
    have hu1 : (A.deeper (envOfC "_law_draw" (C8.fnScope (topS 55)) s.heap.objs.size f cdv)).units + 1 < cLine := by omega
    exact (pms_cons (pms_asg (vs := []) (pm_add false (pm_idx hu1 (pm_var 0) pm_str) pm_int) (pmg_sub hu1 (pm_var 0) pm_str))
 (pms_cons (pms_set 2 nd (pm_add false (pm_idx hu1 (pm_var 0) pm_str) (pm_mul false pm_int (pm_idx hu1 (pm_var 0) pm_str))))
 (pms_cons (pms_if (pmt_cmp (op_neD hu64) cmp_ne (pm_idx hu1 (pm_var 0) pm_str) (pm_lst false pma_nil) (by rfl))
 (pms_cons (pms_set 3 nd (pm_mtL0 slot_pop ty_pop mt_pop mts_pop (pm_idx hu1 (pm_var 0) pm_str)))
 (pms_cons (pms_if (pmt_cmp op_ge cmp_int (pm_var 3) (pm_pow pm_int pm_int) (by rfl))
 (pms_cons (pms_expr (pm_mtL slot_append ty_append mt_append mts_append (pm_idx hu1 (pm_var 0) pm_str) (pma_cons (pm_div (pm_var 3) (pm_callB (cr_max2D rfl hu) (calls_two true) (pma_cons pm_int (pma_cons (pm_var 1) pma_nil)) g.b_max)) pma_nil)))
 (pms_cons (pms_ret (pm_mod (pm_callTy call_int1 calls_int (pma_cons (pm_var 3) pma_nil) g.b_int) (pm_var 1)))
 pms_nil))
 pms_nil)
 (pms_cons (pms_set 2 nd (pm_add false (pm_var 2) (pm_mod (pm_callTy call_int1 calls_int (pma_cons (pm_var 3) pma_nil) g.b_int) pm_int)))
 pms_nil)))
 pms_nil)
 (pms_cons (pms_set 2 nd (pm_mod (pm_callTy call_int1 calls_int (pma_cons (pm_add false (pm_mul false (pm_var 2) pm_int) pm_int) pma_nil) g.b_int) pm_int))
 (pms_cons (pms_set 2 nd (pm_mod (pm_callTy call_int1 calls_int (pma_cons (pm_add false (pm_add false (pm_mul false (pm_var 2) (pm_var 2)) (pm_mul false pm_int (pm_idx hu1 (pm_var 0) pm_str))) pm_int) pma_nil) g.b_int) pm_int))
 (pms_cons (pms_set 2 nd (pm_mod (pm_callTy call_int1 calls_int (pma_cons (pm_mul false (pm_var 2) pm_int) pma_nil) g.b_int) pm_int))
 (pms_cons (pms_ret (pm_mod (pm_callTy call_int1 calls_int (pma_cons (pm_div (pm_var 2) pm_int) pma_nil) g.b_int) (pm_var 1)))
 pms_nil)))))))
theorem c_f_law_pick (g : Top K mg) (c_f_law_draw : C8.Cal P w K mg base 1 "_law_draw" (spF K f_law_draw) []) : C8.Cal P w K mg base 2 "_law_pick" (spF K f_law_pick) [] := by
  obtain ⟨f, fd, D, b⟩ := g.d_f_law_pick
  have nd : (["_law_deck_here", "_law_some"] : List Str).Nodup := by decide +kernel
  exact cal_fn (N := ["_law_deck_here", "_law_some"]) (ps := ["_law_deck_here", "_law_some"]) D b (C8.fnScope_by (by decide +kernel)) rfl rfl fun cdv A outer s H E hr => by
    have hu : (A.deeper (envOfC "_law_pick" (C8.fnScope (topS 56)) s.heap.objs.size f cdv)).units + 65 < cLine := by have := hr.un; omega
    have hu64 : (A.deeper (envOfC "_law_pick" (C8.fnScope (topS 56)) s.heap.objs.size f cdv)).units + 64 < cLine := by omega
    have hu1 : (A.deeper (envOfC "_law_pick" (C8.fnScope (topS 56)) s.heap.objs.size f cdv)).units + 1 < cLine := by omega
    exact (pms_cons (pms_ret (pm_idx hu1 (pm_var 1) (pm_call c_f_law_draw hr (by decide) (pma_cons (pm_var 0) (pma_cons (pm_callB call_len calls_len (pma_cons (pm_var 1) pma_nil) g.b_len) pma_nil)))))
 pms_nil)
theorem c_f_law_touched (g : Top K mg) : C8.Cal P w K mg base 1 "_law_touched" (spF K f_law_touched) [] := by
  obtain ⟨f, fd, D, b⟩ := g.d_f_law_touched
  have nd : (["_law_places_here", "_law_order_here", "_law_many", "_law_at"] : List Str).Nodup := by decide +kernel
  exact cal_fn (N := ["_law_places_here", "_law_order_here", "_law_many", "_law_at"]) (ps := ["_law_places_here", "_law_order_here", "_law_many"]) D b (C8.fnScope_by (by decide +kernel)) rfl rfl fun cdv A outer s H E hr => by
    have hu : (A.deeper (envOfC "_law_touched" (C8.fnScope (topS 62)) s.heap.objs.size f cdv)).units + 65 < cLine := by have := hr.un; omega
    have hu64 : (A.deeper (envOfC "_law_touched" (C8.fnScope (topS 62)) s.heap.objs.size f cdv)).units + 64 < cLine := by omega
    have hu1 : (A.deeper (envOfC "_law_touched" (C8.fnScope (topS 62)) s.heap.objs.size f cdv)).units + 1 < cLine := by omega
    exact (pms_cons (pms_ret (pm_callTy call_tuple_of calls_tuple (pma_cons (pm_callB (cr_sortG hu) (calls_sorted false) (pma_cons (pm_lc false [("_law_at", 3)] rfl nd (blkOk_by (by kernel_rfl)) (pmi_rng1 (pma_cons (pm_var 2) pma_nil) g.b_range) (fun _ _ _ _ _ => (pmg_name (vs := [3]) 3 nd)) (fun _ _ _ _ _ => pmts_nil) (fun _ _ _ _ _ => (pm_callTy call_tuple_of calls_tuple (pma_cons (pm_callB (cr_sortG hu) (calls_sorted false) (pma_cons (pm_lst false (pma_cons (pm_idx hu1 (pm_var 0) (pm_idx hu1 (pm_var 1) (pm_mul false pm_int (pm_var 3)))) (pma_cons (pm_idx hu1 (pm_var 0) (pm_idx hu1 (pm_var 1) (pm_add false (pm_mul false pm_int (pm_var 3)) pm_int))) pma_nil))) pma_nil) g.b_sorted) pma_nil) g.b_tuple))) pma_nil) g.b_sorted) pma_nil) g.b_tuple))
 pms_nil)
theorem c_f_law_order (g : Top K mg) (c_f_law_draw : C8.Cal P w K mg base 1 "_law_draw" (spF K f_law_draw) []) : C8.Cal P w K mg base 2 "_law_order" (spF K f_law_order) [] := by
  obtain ⟨f, fd, D, b⟩ := g.d_f_law_order
  have nd : (["_law_deck_here", "_law_n", "_law_left", "_law_found", "_law_go"] : List Str).Nodup := by decide +kernel
  exact cal_fn (N := ["_law_deck_here", "_law_n", "_law_left", "_law_found", "_law_go"]) (ps := ["_law_deck_here", "_law_n"]) D b (C8.fnScope_by (by decide +kernel)) rfl rfl fun cdv A outer s H E hr => by
    have hu : (A.deeper (envOfC "_law_order" (C8.fnScope (topS 58)) s.heap.objs.size f cdv)).units + 65 < cLine := by have := hr.un; omega
    have hu64 : (A.deeper (envOfC "_law_order" (C8.fnScope (topS 58)) s.heap.objs.size f cdv)).units + 64 < cLine := by omega
    have hu1 : (A.deeper (envOfC "_law_order" (C8.fnScope (topS 58)) s.heap.objs.size f cdv)).units + 1 < cLine := by omega
    exact (pms_cons (pms_par 2 3 rfl nd (pma_cons (pm_listRg true rfl (pm_var 1) g.b_list g.b_range) (pma_cons (pm_lst true pma_nil) pma_nil)))
 (pms_cons (pms_for [4] PassesOwn.never rfl (pmi_rng1 (pma_cons (pm_var 1) pma_nil) g.b_range) (pmg_name (vs := [4]) 4 nd)
 (pms_cons (pms_expr (pm_mtL slot_append ty_append mt_append mts_append (pm_var 3) (pma_cons (pm_mtL slot_pop ty_pop mt_popAt mts_popAt (pm_var 2) (pma_cons (pm_call c_f_law_draw hr (by decide) (pma_cons (pm_var 0) (pma_cons (pm_callB call_len calls_len (pma_cons (pm_var 2) pma_nil) g.b_len) pma_nil))) pma_nil)) pma_nil)))
 pms_nil))
 (pms_cons (pms_ret (pm_callTy call_tuple_of calls_tuple (pma_cons (pm_var 3) pma_nil) g.b_tuple))
 pms_nil)))
theorem c_f_law_floor (g : Top K mg) (c_f_law_draw : C8.Cal P w K mg base 1 "_law_draw" (spF K f_law_draw) []) (c_f_law_order : C8.Cal P w K mg base 2 "_law_order" (spF K f_law_order) []) (c_f_law_pick : C8.Cal P w K mg base 2 "_law_pick" (spF K f_law_pick) []) (c_f_law_places : C8.Cal P w K mg base 1 "_law_places" (spF K f_law_places) []) (c_f_law_touched : C8.Cal P w K mg base 1 "_law_touched" (spF K f_law_touched) []) : C8.Cal P w K mg base 3 "_law_floor" (spF K f_law_floor) [] := by
  obtain ⟨f, fd, D, b⟩ := g.d_f_law_floor
  have nd : (["_law_deck_here", "_law_most", "_law_many", "_law_rings", "_law_left", "_law_unit", "_law_go", "_law_longest", "_law_places_here", "_law_count"] : List Str).Nodup := by decide +kernel
  exact cal_fn (N := ["_law_deck_here", "_law_most", "_law_many", "_law_rings", "_law_left", "_law_unit", "_law_go", "_law_longest", "_law_places_here", "_law_count"]) (ps := ["_law_deck_here", "_law_most", "_law_many"]) D b (C8.fnScope_by (by decide +kernel)) rfl rfl fun cdv A outer s H E hr => by
    have hu : (A.deeper (envOfC "_law_floor" (C8.fnScope (topS 63)) s.heap.objs.size f cdv)).units + 65 < cLine := by have := hr.un; omega
    have hu64 : (A.deeper (envOfC "_law_floor" (C8.fnScope (topS 63)) s.heap.objs.size f cdv)).units + 64 < cLine := by omega
    have hu1 : (A.deeper (envOfC "_law_floor" (C8.fnScope (topS 63)) s.heap.objs.size f cdv)).units + 1 < cLine := by omega
    exact (pms_cons (pms_par3 3 4 5 rfl nd (pma_cons (pm_lst true pma_nil) (pma_cons (pm_var 1) (pma_cons (pm_call c_f_law_pick hr (by decide) (pma_cons (pm_var 0) (pma_cons (pm_lst false (pma_cons pm_int (pma_cons pm_int (pma_cons pm_int (pma_cons pm_int (pma_cons pm_int (pma_cons pm_int pma_nil))))))) pma_nil))) pma_nil))))
 (pms_cons (pms_for [6, 7] PassesOwn.never rfl (pmi_rng1 (pma_cons (pm_call c_f_law_pick hr (by decide) (pma_cons (pm_var 0) (pma_cons (pm_lst false (pma_cons pm_int (pma_cons pm_int (pma_cons pm_int (pma_cons pm_int (pma_cons pm_int (pma_cons pm_int pma_nil))))))) pma_nil))) pma_nil) g.b_range) (pmg_name (vs := [6]) 6 nd)
 (pms_cons (pms_if (pmt_cmp op_ge cmp_int (pm_var 4) (pm_var 5) (by rfl))
 (pms_cons (pms_set 7 nd (pm_callB (cr_min2D rfl hu) (calls_two false) (pma_cons (pm_var 4) (pma_cons (pm_call c_f_law_pick hr (by decide) (pma_cons (pm_var 0) (pma_cons (pm_lst false (pma_cons pm_int (pma_cons pm_int (pma_cons pm_int (pma_cons (pm_var 1) pma_nil))))) pma_nil))) pma_nil)) g.b_min))
 (pms_cons (pms_expr (pm_mtL slot_append ty_append mt_append mts_append (pm_var 3) (pma_cons (pm_mul false (pm_var 5) (pm_add false pm_int (pm_call c_f_law_draw hr (by decide) (pma_cons (pm_var 0) (pma_cons (pm_callB (cr_max2D rfl hu) (calls_two true) (pma_cons pm_int (pma_cons (pm_div (pm_var 7) (pm_var 5)) pma_nil)) g.b_max) pma_nil))))) pma_nil)))
 (pms_cons (pms_set 4 nd (pm_sub (pm_var 4) (pm_idx hu1 (pm_var 3) (pm_neg pm_int))))
 pms_nil)))
 pms_nil)
 pms_nil))
 (pms_cons (pms_if (pmt_cmp (op_eqD hu64) cmp_eq (pm_var 3) (pm_lst false pma_nil) (by rfl))
 (pms_cons (pms_expr (pm_mtL slot_append ty_append mt_append mts_append (pm_var 3) (pma_cons (pm_add false pm_int (pm_call c_f_law_draw hr (by decide) (pma_cons (pm_var 0) (pma_cons (pm_var 1) pma_nil)))) pma_nil)))
 pms_nil)
 pms_nil)
 (pms_cons (pms_set 8 nd (pm_call c_f_law_places hr (by decide) (pma_cons (pm_frz 3) pma_nil)))
 (pms_cons (pms_set 9 nd (pm_call c_f_law_draw hr (by decide) (pma_cons (pm_var 0) (pma_cons (pm_add false (pm_callB (cr_min2D rfl hu) (calls_two false) (pma_cons (pm_var 2) (pma_cons (pm_div (pm_callB call_len calls_len (pma_cons (pm_var 8) pma_nil) g.b_len) pm_int) pma_nil)) g.b_min) pm_int) pma_nil))))
 (pms_cons (pms_ret (pm_tup (pma_cons (pm_callTy call_tuple_of calls_tuple (pma_cons (pm_var 3) pma_nil) g.b_tuple) (pma_cons (pm_call c_f_law_touched hr (by decide) (pma_cons (pm_var 8) (pma_cons (pm_call c_f_law_order hr (by decide) (pma_cons (pm_var 0) (pma_cons (pm_callB call_len calls_len (pma_cons (pm_var 8) pma_nil) g.b_len) pma_nil))) (pma_cons (pm_var 9) pma_nil)))) pma_nil))))
 pms_nil))))))
theorem c_f_law_led (g : Top K mg) : C8.Cal P w K mg base 1 "_law_led" (spF K f_law_led) [] := by
  obtain ⟨f, fd, D, b⟩ := g.d_f_law_led
  have nd : (["_law_arrangement", "_law_to", "_law_found", "_law_s", "_law_dancer"] : List Str).Nodup := by decide +kernel
  exact cal_fn (N := ["_law_arrangement", "_law_to", "_law_found", "_law_s", "_law_dancer"]) (ps := ["_law_arrangement", "_law_to"]) D b (C8.fnScope_by (by decide +kernel)) rfl rfl fun cdv A outer s H E hr => by
    have hu : (A.deeper (envOfC "_law_led" (C8.fnScope (topS 67)) s.heap.objs.size f cdv)).units + 65 < cLine := by have := hr.un; omega
    have hu64 : (A.deeper (envOfC "_law_led" (C8.fnScope (topS 67)) s.heap.objs.size f cdv)).units + 64 < cLine := by omega
    have hu1 : (A.deeper (envOfC "_law_led" (C8.fnScope (topS 67)) s.heap.objs.size f cdv)).units + 1 < cLine := by omega
    exact (pms_cons (pms_set 2 nd (pm_callTy call_list_of (calls_list true) (pma_cons (pm_var 0) pma_nil) g.b_list))
 (pms_cons (pms_for [3, 4] PassesOwn.never rfl (pmi_enum (pm_var 0) g.b_enumerate) (pmg_tup rfl (pmgs_cons (pmg_name (vs := [3, 4]) 3 nd) (pmgs_cons (pmg_name (vs := [3, 4]) 4 nd) pmgs_nil)))
 (pms_cons (pms_asg (vs := []) (pm_var 4) (pmg_sub hu1 (pm_var 2) (pm_idx hu1 (pm_var 1) (pm_var 3))))
 pms_nil))
 (pms_cons (pms_ret (pm_callTy call_tuple_of calls_tuple (pma_cons (pm_var 2) pma_nil) g.b_tuple))
 pms_nil)))
theorem c_f_law_call (g : Top K mg) (c_f_law_draw : C8.Cal P w K mg base 1 "_law_draw" (spF K f_law_draw) []) : C8.Cal P w K mg base 2 "_law_call" (spF K f_law_call) [] := by
  obtain ⟨f, fd, D, b⟩ := g.d_f_law_call
  have nd : (["_law_deck_here", "_law_table_here", "_law_number"] : List Str).Nodup := by decide +kernel
  exact cal_fn (N := ["_law_deck_here", "_law_table_here", "_law_number"]) (ps := ["_law_deck_here", "_law_table_here"]) D b (C8.fnScope_by (by decide +kernel)) rfl rfl fun cdv A outer s H E hr => by
    have hu : (A.deeper (envOfC "_law_call" (C8.fnScope (topS 70)) s.heap.objs.size f cdv)).units + 65 < cLine := by have := hr.un; omega
    have hu64 : (A.deeper (envOfC "_law_call" (C8.fnScope (topS 70)) s.heap.objs.size f cdv)).units + 64 < cLine := by omega
    have hu1 : (A.deeper (envOfC "_law_call" (C8.fnScope (topS 70)) s.heap.objs.size f cdv)).units + 1 < cLine := by omega
    exact (pms_cons (pms_ret (pm_callTy call_tuple_of calls_tuple (pma_cons (pm_lc false [("_law_number", 2)] rfl nd (blkOk_by (by kernel_rfl)) (pmi_rng1 (pma_cons (pm_callB call_len calls_len (pma_cons (pm_idx hu1 (pm_idx hu1 (pm_var 1) pm_str) pm_int) pma_nil) g.b_len) pma_nil) g.b_range) (fun _ _ _ _ _ => (pmg_name (vs := [2]) 2 nd)) (fun _ _ _ _ _ => (pmts_one (pmt_cmp (op_eqD hu64) cmp_eq (pm_call c_f_law_draw hr (by decide) (pma_cons (pm_var 0) (pma_cons pm_int pma_nil))) pm_int (by rfl)))) (fun _ _ _ _ _ => (pm_var 2))) pma_nil) g.b_tuple))
 pms_nil)
theorem c_f_law_plan (g : Top K mg) (c_f_law_call : C8.Cal P w K mg base 2 "_law_call" (spF K f_law_call) []) (c_f_law_draw : C8.Cal P w K mg base 1 "_law_draw" (spF K f_law_draw) []) (c_f_law_pick : C8.Cal P w K mg base 2 "_law_pick" (spF K f_law_pick) []) : ∀ n : Nat, C8.Cal P w K mg base (2 + n + 1) "_law_plan" (spF K (f_law_plan n)) []
  | 0 => by
    obtain ⟨f, fd, D, b⟩ := g.d_f_law_plan
    exact cal_stuck D b
  | n + 1 => by
    have c_f_law_plan := fun (_ : Nat) => c_f_law_plan g c_f_law_call c_f_law_draw c_f_law_pick n
    obtain ⟨f, fd, D, b⟩ := g.d_f_law_plan
    have nd : (["_law_deck_here", "_law_table_here", "_law_skips_here", "_law_deep", "_law_many", "_law_found", "_law_go", "_law_way", "_law_k"] : List Str).Nodup := by decide +kernel
    show C8.Cal P w K mg base ((2 + n + 1) + 1) "_law_plan" _ []
    exact cal_fn (N := ["_law_deck_here", "_law_table_here", "_law_skips_here", "_law_deep", "_law_many", "_law_found", "_law_go", "_law_way", "_law_k"]) (ps := ["_law_deck_here", "_law_table_here", "_law_skips_here", "_law_deep", "_law_many"]) D b (C8.fnScope_by (by decide +kernel)) rfl rfl fun cdv A outer s H E hr => by
      have hu : (A.deeper (envOfC "_law_plan" (C8.fnScope (topS 71)) s.heap.objs.size f cdv)).units + 65 < cLine := by have := hr.un; omega
      have hu64 : (A.deeper (envOfC "_law_plan" (C8.fnScope (topS 71)) s.heap.objs.size f cdv)).units + 64 < cLine := by omega
      have hu1 : (A.deeper (envOfC "_law_plan" (C8.fnScope (topS 71)) s.heap.objs.size f cdv)).units + 1 < cLine := by omega
      exact (pms_cons (pms_set 5 nd (pm_lst true pma_nil))
   (pms_cons (pms_for [6, 7, 8] PassesOwn.never rfl (pmi_rng1 (pma_cons (pm_call c_f_law_draw hr (by omega) (pma_cons (pm_var 0) (pma_cons (pm_add false (pm_var 4) pm_int) pma_nil))) pma_nil) g.b_range) (pmg_name (vs := [6]) 6 nd)
   (pms_cons (pms_set 7 nd (pm_call c_f_law_draw hr (by omega) (pma_cons (pm_var 0) (pma_cons pm_int pma_nil))))
   (pms_cons (pms_if (PMW.tt (pmw_and (pmt_cmp (op_eqD hu64) cmp_eq (pm_var 7) pm_int (by rfl)) (pmw_and1 (pmt_cmp op_gt cmp_int (pm_var 3) pm_int (by rfl)))))
   (pms_cons (pms_set 8 nd (pm_call c_f_law_pick hr (by omega) (pma_cons (pm_var 0) (pma_cons (pm_lst false (pma_cons pm_int (pma_cons pm_int (pma_cons pm_int (pma_cons pm_int (pma_cons pm_int (pma_cons pm_int (pma_cons pm_int (pma_cons (pm_pow pm_int pm_int) pma_nil))))))))) pma_nil))))
   (pms_cons (pms_expr (pm_mtL slot_append ty_append mt_append mts_append (pm_var 5) (pma_cons (pm_tup (pma_cons pm_str (pma_cons (pm_var 8) (pma_cons (pm_call (c_f_law_plan n) hr (by omega) (pma_cons (pm_var 0) (pma_cons (pm_var 1) (pma_cons (pm_var 2) (pma_cons (pm_sub (pm_var 3) pm_int) (pma_cons pm_int pma_nil)))))) pma_nil)))) pma_nil)))
   pms_nil))
   (pms_cons (pms_if (PMW.tt (pmw_and (pmt_cmp op_lt cmp_int (pm_var 7) pm_int (by rfl)) (pmw_and1 (pmt_cmp (op_neD hu64) cmp_ne (pm_var 2) (pm_tup pma_nil) (by rfl)))))
   (pms_cons (pms_expr (pm_mtL slot_append ty_append mt_append mts_append (pm_var 5) (pma_cons (pm_tup (pma_cons pm_str (pma_cons (pm_call c_f_law_draw hr (by omega) (pma_cons (pm_var 0) (pma_cons (pm_callB call_len calls_len (pma_cons (pm_var 2) pma_nil) g.b_len) pma_nil))) pma_nil))) pma_nil)))
   pms_nil)
   (pms_cons (pms_expr (pm_mtL slot_append ty_append mt_append mts_append (pm_var 5) (pma_cons (pm_tup (pma_cons pm_str (pma_cons (pm_call c_f_law_call hr (by omega) (pma_cons (pm_var 0) (pma_cons (pm_var 1) pma_nil))) pma_nil))) pma_nil)))
   pms_nil))
   pms_nil))
   pms_nil)))
   (pms_cons (pms_ret (pm_callTy call_tuple_of calls_tuple (pma_cons (pm_var 5) pma_nil) g.b_tuple))
   pms_nil)))
theorem c_f_is_pair (g : Top K mg) : C8.Cal P w K mg base 1 "is_pair" (spF K f_is_pair) [] := by
  obtain ⟨f, fd, D, b⟩ := g.d_f_is_pair
  have nd : (["thing"] : List Str).Nodup := by decide +kernel
  exact cal_fn (N := ["thing"]) (ps := ["thing"]) D b (C8.fnScope_by (by decide +kernel)) rfl rfl fun cdv A outer s H E hr => by
    have hu : (A.deeper (envOfC "is_pair" (C8.fnScope (topS 11)) s.heap.objs.size f cdv)).units + 65 < cLine := by have := hr.un; omega
    have hu64 : (A.deeper (envOfC "is_pair" (C8.fnScope (topS 11)) s.heap.objs.size f cdv)).units + 64 < cLine := by omega
    have hu1 : (A.deeper (envOfC "is_pair" (C8.fnScope (topS 11)) s.heap.objs.size f cdv)).units + 1 < cLine := by omega
    exact (pms_cons (pms_ret (pm_and (pm_isa "tuple" (by decide) (pm_var 0) g.b_isinstance g.b_tuple) (pm_one (pm_cmp (op_eqD hu64) cmp_eq (pm_callB call_len calls_len (pma_cons (pm_var 0) pma_nil) g.b_len) pm_int (by rfl)))))
 pms_nil)
theorem c_f_is_integer (g : Top K mg) : C8.Cal P w K mg base 1 "is_integer" (spF K f_is_integer) [] := by
  obtain ⟨f, fd, D, b⟩ := g.d_f_is_integer
  have nd : (["thing"] : List Str).Nodup := by decide +kernel
  exact cal_fn (N := ["thing"]) (ps := ["thing"]) D b (C8.fnScope_by (by decide +kernel)) rfl rfl fun cdv A outer s H E hr => by
    have hu : (A.deeper (envOfC "is_integer" (C8.fnScope (topS 8)) s.heap.objs.size f cdv)).units + 65 < cLine := by have := hr.un; omega
    have hu64 : (A.deeper (envOfC "is_integer" (C8.fnScope (topS 8)) s.heap.objs.size f cdv)).units + 64 < cLine := by omega
    have hu1 : (A.deeper (envOfC "is_integer" (C8.fnScope (topS 8)) s.heap.objs.size f cdv)).units + 1 < cLine := by omega
    exact (pms_cons (pms_ret (pm_and (pm_isa "int" (by decide) (pm_var 0) g.b_isinstance g.b_int) (pm_one (pm_not (pm_isa "bool" (by decide) (pm_var 0) g.b_isinstance g.b_bool)))))
 pms_nil)
theorem c_f_is_from (g : Top K mg) (c_f_is_integer : C8.Cal P w K mg base 1 "is_integer" (spF K f_is_integer) []) : C8.Cal P w K mg base 2 "is_from" (spF K f_is_from) [] := by
  obtain ⟨f, fd, D, b⟩ := g.d_f_is_from
  have nd : (["thing", "least"] : List Str).Nodup := by decide +kernel
  exact cal_fn (N := ["thing", "least"]) (ps := ["thing", "least"]) D b (C8.fnScope_by (by decide +kernel)) rfl rfl fun cdv A outer s H E hr => by
    have hu : (A.deeper (envOfC "is_from" (C8.fnScope (topS 9)) s.heap.objs.size f cdv)).units + 65 < cLine := by have := hr.un; omega
    have hu64 : (A.deeper (envOfC "is_from" (C8.fnScope (topS 9)) s.heap.objs.size f cdv)).units + 64 < cLine := by omega
    have hu1 : (A.deeper (envOfC "is_from" (C8.fnScope (topS 9)) s.heap.objs.size f cdv)).units + 1 < cLine := by omega
    exact (pms_cons (pms_ret (pm_and (pm_call c_f_is_integer hr (by decide) (pma_cons (pm_var 0) pma_nil)) (pm_one (pm_cmp op_ge cmp_int (pm_var 0) (pm_var 1) (by rfl)))))
 pms_nil)
theorem c_f_are_rings_value (g : Top K mg) (c_f_is_from : C8.Cal P w K mg base 2 "is_from" (spF K f_is_from) []) : C8.Cal P w K mg base 3 "are_rings_value" (spF K f_are_rings_value) [] := by
  obtain ⟨f, fd, D, b⟩ := g.d_f_are_rings_value
  have nd : (["thing", "length"] : List Str).Nodup := by decide +kernel
  exact cal_fn (N := ["thing", "length"]) (ps := ["thing"]) D b (C8.fnScope_by (by decide +kernel)) rfl rfl fun cdv A outer s H E hr => by
    have hu : (A.deeper (envOfC "are_rings_value" (C8.fnScope (topS 12)) s.heap.objs.size f cdv)).units + 65 < cLine := by have := hr.un; omega
    have hu64 : (A.deeper (envOfC "are_rings_value" (C8.fnScope (topS 12)) s.heap.objs.size f cdv)).units + 64 < cLine := by omega
    have hu1 : (A.deeper (envOfC "are_rings_value" (C8.fnScope (topS 12)) s.heap.objs.size f cdv)).units + 1 < cLine := by omega
    exact (pms_cons (pms_ret (pm_and (pm_isa "tuple" (by decide) (pm_var 0) g.b_isinstance g.b_tuple) (pm_and (pm_chain op_le cmp_int op_le cmp_int pm_int (pm_callB call_len calls_len (pma_cons (pm_var 0) pma_nil) g.b_len) (pm_gint g.k_MOST_RINGS.choose_spec)) (pm_one (pm_callB (cr_all rfl) calls_all (pma_cons (pm_lc false [("length", 1)] rfl nd (blkOk_by (by kernel_rfl)) (pmi_seq (pm_var 0)) (fun _ _ _ _ _ => (pmg_name (vs := [1]) 1 nd)) (fun _ _ _ _ _ => pmts_nil) (fun _ _ _ _ _ => (pm_call c_f_is_from hr (by decide) (pma_cons (pm_var 1) (pma_cons pm_int pma_nil))))) pma_nil) g.b_all)))))
 pms_nil)
theorem c_f_is_between (g : Top K mg) (c_f_is_integer : C8.Cal P w K mg base 1 "is_integer" (spF K f_is_integer) []) : C8.Cal P w K mg base 2 "is_between" (spF K f_is_between) [] := by
  obtain ⟨f, fd, D, b⟩ := g.d_f_is_between
  have nd : (["thing", "least", "most"] : List Str).Nodup := by decide +kernel
  exact cal_fn (N := ["thing", "least", "most"]) (ps := ["thing", "least", "most"]) D b (C8.fnScope_by (by decide +kernel)) rfl rfl fun cdv A outer s H E hr => by
    have hu : (A.deeper (envOfC "is_between" (C8.fnScope (topS 10)) s.heap.objs.size f cdv)).units + 65 < cLine := by have := hr.un; omega
    have hu64 : (A.deeper (envOfC "is_between" (C8.fnScope (topS 10)) s.heap.objs.size f cdv)).units + 64 < cLine := by omega
    have hu1 : (A.deeper (envOfC "is_between" (C8.fnScope (topS 10)) s.heap.objs.size f cdv)).units + 1 < cLine := by omega
    exact (pms_cons (pms_ret (pm_and (pm_call c_f_is_integer hr (by decide) (pma_cons (pm_var 0) pma_nil)) (pm_one (pm_chain op_le cmp_int op_le cmp_int (pm_var 1) (pm_var 0) (pm_var 2)))))
 pms_nil)
theorem c_f_is_place_of (g : Top K mg) (c_f_is_between : C8.Cal P w K mg base 2 "is_between" (spF K f_is_between) []) (c_f_is_pair : C8.Cal P w K mg base 1 "is_pair" (spF K f_is_pair) []) : C8.Cal P w K mg base 3 "is_place_of" (spF K f_is_place_of) [] := by
  obtain ⟨f, fd, D, b⟩ := g.d_f_is_place_of
  have nd : (["rings", "thing"] : List Str).Nodup := by decide +kernel
  exact cal_fn (N := ["rings", "thing"]) (ps := ["rings", "thing"]) D b (C8.fnScope_by (by decide +kernel)) rfl rfl fun cdv A outer s H E hr => by
    have hu : (A.deeper (envOfC "is_place_of" (C8.fnScope (topS 13)) s.heap.objs.size f cdv)).units + 65 < cLine := by have := hr.un; omega
    have hu64 : (A.deeper (envOfC "is_place_of" (C8.fnScope (topS 13)) s.heap.objs.size f cdv)).units + 64 < cLine := by omega
    have hu1 : (A.deeper (envOfC "is_place_of" (C8.fnScope (topS 13)) s.heap.objs.size f cdv)).units + 1 < cLine := by omega
    exact (pms_cons (pms_if (PMW.tt (pmw_or (pmt_not (pmt_val (pm_call c_f_is_pair hr (by decide) (pma_cons (pm_var 1) pma_nil)))) (pmw_or1 (pmt_not (pmt_val (pm_call c_f_is_between hr (by decide) (pma_cons (pm_idx hu1 (pm_var 1) pm_int) (pma_cons pm_int (pma_cons (pm_sub (pm_callB call_len calls_len (pma_cons (pm_var 0) pma_nil) g.b_len) pm_int) pma_nil)))))))))
 (pms_cons (pms_ret pm_bl)
 pms_nil)
 pms_nil)
 (pms_cons (pms_ret (pm_call c_f_is_between hr (by decide) (pma_cons (pm_idx hu1 (pm_var 1) pm_int) (pma_cons pm_int (pma_cons (pm_sub (pm_idx hu1 (pm_var 0) (pm_idx hu1 (pm_var 1) pm_int)) pm_int) pma_nil)))))
 pms_nil))
theorem c_f_is_touch_of (g : Top K mg) (c_f_is_pair : C8.Cal P w K mg base 1 "is_pair" (spF K f_is_pair) []) (c_f_is_place_of : C8.Cal P w K mg base 3 "is_place_of" (spF K f_is_place_of) []) : C8.Cal P w K mg base 4 "is_touch_of" (spF K f_is_touch_of) [] := by
  obtain ⟨f, fd, D, b⟩ := g.d_f_is_touch_of
  have nd : (["rings", "thing"] : List Str).Nodup := by decide +kernel
  exact cal_fn (N := ["rings", "thing"]) (ps := ["rings", "thing"]) D b (C8.fnScope_by (by decide +kernel)) rfl rfl fun cdv A outer s H E hr => by
    have hu : (A.deeper (envOfC "is_touch_of" (C8.fnScope (topS 14)) s.heap.objs.size f cdv)).units + 65 < cLine := by have := hr.un; omega
    have hu64 : (A.deeper (envOfC "is_touch_of" (C8.fnScope (topS 14)) s.heap.objs.size f cdv)).units + 64 < cLine := by omega
    have hu1 : (A.deeper (envOfC "is_touch_of" (C8.fnScope (topS 14)) s.heap.objs.size f cdv)).units + 1 < cLine := by omega
    exact (pms_cons (pms_if (PMW.tt (pmw_or (pmt_not (pmt_val (pm_call c_f_is_pair hr (by decide) (pma_cons (pm_var 1) pma_nil)))) (pmw_or (pmt_not (pmt_val (pm_call c_f_is_place_of hr (by decide) (pma_cons (pm_var 0) (pma_cons (pm_idx hu1 (pm_var 1) pm_int) pma_nil))))) (pmw_or1 (pmt_not (pmt_val (pm_call c_f_is_place_of hr (by decide) (pma_cons (pm_var 0) (pma_cons (pm_idx hu1 (pm_var 1) pm_int) pma_nil)))))))))
 (pms_cons (pms_ret pm_bl)
 pms_nil)
 pms_nil)
 (pms_cons (pms_ret (pm_cmp (op_ltA hu) cmp_ltA (pm_idx hu1 (pm_var 1) pm_int) (pm_idx hu1 (pm_var 1) pm_int) (by rfl)))
 pms_nil))
theorem c_f_are_touches_of (g : Top K mg) (c_f_is_touch_of : C8.Cal P w K mg base 4 "is_touch_of" (spF K f_is_touch_of) []) : C8.Cal P w K mg base 5 "are_touches_of" (spF K f_are_touches_of) [] := by
  obtain ⟨f, fd, D, b⟩ := g.d_f_are_touches_of
  have nd : (["rings", "thing", "some", "touch", "place"] : List Str).Nodup := by decide +kernel
  exact cal_fn (N := ["rings", "thing", "some", "touch", "place"]) (ps := ["rings", "thing"]) D b (C8.fnScope_by (by decide +kernel)) rfl rfl fun cdv A outer s H E hr => by
    have hu : (A.deeper (envOfC "are_touches_of" (C8.fnScope (topS 15)) s.heap.objs.size f cdv)).units + 65 < cLine := by have := hr.un; omega
    have hu64 : (A.deeper (envOfC "are_touches_of" (C8.fnScope (topS 15)) s.heap.objs.size f cdv)).units + 64 < cLine := by omega
    have hu1 : (A.deeper (envOfC "are_touches_of" (C8.fnScope (topS 15)) s.heap.objs.size f cdv)).units + 1 < cLine := by omega
    exact (pms_cons (pms_if (PMW.tt (pmw_or (pmt_not (pmt_val (pm_isa "tuple" (by decide) (pm_var 1) g.b_isinstance g.b_tuple))) (pmw_or1 (pmt_not (pmt_val (pm_callB (cr_all rfl) calls_all (pma_cons (pm_lc false [("touch", 3)] rfl nd (blkOk_by (by kernel_rfl)) (pmi_seq (pm_var 1)) (fun _ _ _ _ _ => (pmg_name (vs := [3]) 3 nd)) (fun _ _ _ _ _ => pmts_nil) (fun _ _ _ _ _ => (pm_call c_f_is_touch_of hr (by decide) (pma_cons (pm_var 0) (pma_cons (pm_var 3) pma_nil))))) pma_nil) g.b_all))))))
 (pms_cons (pms_ret pm_bl)
 pms_nil)
 pms_nil)
 (pms_cons (pms_setLc2 false 2 [("touch", 3), ("place", 4)] [4] rfl nd (blkOk_by (by kernel_rfl)) (pmi_seq (pm_var 1)) (fun _ _ _ _ _ => (pmg_name (vs := [3, 4]) 3 nd)) (fun _ _ _ _ _ => pmts_nil) (fun _ _ _ _ _ => (pmi_seq (pm_var 3))) (fun _ _ _ _ _ => (pmg_name (vs := [4]) 4 nd)) (fun _ _ _ _ _ => pmts_nil) (fun _ _ _ _ _ => (pm_var 4)))
 (pms_cons (pms_ret (pm_and (pm_cmp (op_eqD hu64) cmp_eq (pm_callTy call_list_of (calls_list false) (pma_cons (pm_var 1) pma_nil) g.b_list) (pm_callB (cr_sortG hu) (calls_sorted false) (pma_cons (pm_var 1) pma_nil) g.b_sorted) (by rfl)) (pm_one (pm_cmp (op_eqD hu64) cmp_eq (pm_lenSet rfl hu (pm_var 2) g.b_len g.b_set) (pm_callB call_len calls_len (pma_cons (pm_var 2) pma_nil) g.b_len) (by rfl)))))
 pms_nil)))
theorem c_f_is_floor_value (g : Top K mg) (c_f_are_rings_value : C8.Cal P w K mg base 3 "are_rings_value" (spF K f_are_rings_value) []) (c_f_are_touches_of : C8.Cal P w K mg base 5 "are_touches_of" (spF K f_are_touches_of) []) (c_f_is_pair : C8.Cal P w K mg base 1 "is_pair" (spF K f_is_pair) []) : C8.Cal P w K mg base 6 "is_floor_value" (spF K f_is_floor_value) [] := by
  obtain ⟨f, fd, D, b⟩ := g.d_f_is_floor_value
  have nd : (["thing"] : List Str).Nodup := by decide +kernel
  exact cal_fn (N := ["thing"]) (ps := ["thing"]) D b (C8.fnScope_by (by decide +kernel)) rfl rfl fun cdv A outer s H E hr => by
    have hu : (A.deeper (envOfC "is_floor_value" (C8.fnScope (topS 16)) s.heap.objs.size f cdv)).units + 65 < cLine := by have := hr.un; omega
    have hu64 : (A.deeper (envOfC "is_floor_value" (C8.fnScope (topS 16)) s.heap.objs.size f cdv)).units + 64 < cLine := by omega
    have hu1 : (A.deeper (envOfC "is_floor_value" (C8.fnScope (topS 16)) s.heap.objs.size f cdv)).units + 1 < cLine := by omega
    exact (pms_cons (pms_ret (pm_and (pm_call c_f_is_pair hr (by decide) (pma_cons (pm_var 0) pma_nil)) (pm_and (pm_call c_f_are_rings_value hr (by decide) (pma_cons (pm_idx hu1 (pm_var 0) pm_int) pma_nil)) (pm_one (pm_call c_f_are_touches_of hr (by decide) (pma_cons (pm_idx hu1 (pm_var 0) pm_int) (pma_cons (pm_idx hu1 (pm_var 0) pm_int) pma_nil)))))))
 pms_nil)
theorem c_f_need_floor (g : Top K mg) (c_f_is_floor_value : C8.Cal P w K mg base 6 "is_floor_value" (spF K f_is_floor_value) []) : C8.Cal P w K mg base 7 "need_floor" (spF K f_need_floor) [] := by
  obtain ⟨f, fd, D, b⟩ := g.d_f_need_floor
  have nd : (["floor"] : List Str).Nodup := by decide +kernel
  exact cal_fn (N := ["floor"]) (ps := ["floor"]) D b (C8.fnScope_by (by decide +kernel)) rfl rfl fun cdv A outer s H E hr => by
    have hu : (A.deeper (envOfC "need_floor" (C8.fnScope (topS 17)) s.heap.objs.size f cdv)).units + 65 < cLine := by have := hr.un; omega
    have hu64 : (A.deeper (envOfC "need_floor" (C8.fnScope (topS 17)) s.heap.objs.size f cdv)).units + 64 < cLine := by omega
    have hu1 : (A.deeper (envOfC "need_floor" (C8.fnScope (topS 17)) s.heap.objs.size f cdv)).units + 1 < cLine := by omega
    exact (pms_cons (pms_if (pmt_not (pmt_val (pm_call c_f_is_floor_value hr (by decide) (pma_cons (pm_var 0) pma_nil))))
 (pms_cons pms_never
 pms_nil)
 pms_nil)
 pms_nil)
theorem c_f_is_skip_of (g : Top K mg) (c_f_is_between : C8.Cal P w K mg base 2 "is_between" (spF K f_is_between) []) (c_f_is_pair : C8.Cal P w K mg base 1 "is_pair" (spF K f_is_pair) []) : C8.Cal P w K mg base 3 "is_skip_of" (spF K f_is_skip_of) [] := by
  obtain ⟨f, fd, D, b⟩ := g.d_f_is_skip_of
  have nd : (["floor", "thing"] : List Str).Nodup := by decide +kernel
  exact cal_fn (N := ["floor", "thing"]) (ps := ["floor", "thing"]) D b (C8.fnScope_by (by decide +kernel)) rfl rfl fun cdv A outer s H E hr => by
    have hu : (A.deeper (envOfC "is_skip_of" (C8.fnScope (topS 41)) s.heap.objs.size f cdv)).units + 65 < cLine := by have := hr.un; omega
    have hu64 : (A.deeper (envOfC "is_skip_of" (C8.fnScope (topS 41)) s.heap.objs.size f cdv)).units + 64 < cLine := by omega
    have hu1 : (A.deeper (envOfC "is_skip_of" (C8.fnScope (topS 41)) s.heap.objs.size f cdv)).units + 1 < cLine := by omega
    exact (pms_cons (pms_ret (pm_and (pm_call c_f_is_pair hr (by decide) (pma_cons (pm_var 1) pma_nil)) (pm_and (pm_call c_f_is_between hr (by decide) (pma_cons (pm_idx hu1 (pm_var 1) pm_int) (pma_cons pm_int (pma_cons (pm_sub (pm_callB call_len calls_len (pma_cons (pm_idx hu1 (pm_var 0) pm_int) pma_nil) g.b_len) pm_int) pma_nil)))) (pm_one (pm_call c_f_is_between hr (by decide) (pma_cons (pm_idx hu1 (pm_var 1) pm_int) (pma_cons pm_int (pma_cons (pm_gint g.k_MOST_SKIP.choose_spec) pma_nil))))))))
 pms_nil)
theorem c_f_are_skips_value (g : Top K mg) (c_f_is_skip_of : C8.Cal P w K mg base 3 "is_skip_of" (spF K f_is_skip_of) []) : C8.Cal P w K mg base 4 "are_skips_value" (spF K f_are_skips_value) [] := by
  obtain ⟨f, fd, D, b⟩ := g.d_f_are_skips_value
  have nd : (["floor", "thing", "skip", "one", "other"] : List Str).Nodup := by decide +kernel
  exact cal_fn (N := ["floor", "thing", "skip", "one", "other"]) (ps := ["floor", "thing"]) D b (C8.fnScope_by (by decide +kernel)) rfl rfl fun cdv A outer s H E hr => by
    have hu : (A.deeper (envOfC "are_skips_value" (C8.fnScope (topS 42)) s.heap.objs.size f cdv)).units + 65 < cLine := by have := hr.un; omega
    have hu64 : (A.deeper (envOfC "are_skips_value" (C8.fnScope (topS 42)) s.heap.objs.size f cdv)).units + 64 < cLine := by omega
    have hu1 : (A.deeper (envOfC "are_skips_value" (C8.fnScope (topS 42)) s.heap.objs.size f cdv)).units + 1 < cLine := by omega
    exact (pms_cons (pms_if (PMW.tt (pmw_or (pmt_not (pmt_val (pm_isa "tuple" (by decide) (pm_var 1) g.b_isinstance g.b_tuple))) (pmw_or1 (pmt_not (pmt_val (pm_callB (cr_all rfl) calls_all (pma_cons (pm_lc false [("skip", 2)] rfl nd (blkOk_by (by kernel_rfl)) (pmi_seq (pm_var 1)) (fun _ _ _ _ _ => (pmg_name (vs := [2]) 2 nd)) (fun _ _ _ _ _ => pmts_nil) (fun _ _ _ _ _ => (pm_call c_f_is_skip_of hr (by decide) (pma_cons (pm_var 0) (pma_cons (pm_var 2) pma_nil))))) pma_nil) g.b_all))))))
 (pms_cons (pms_ret pm_bl)
 pms_nil)
 pms_nil)
 (pms_cons (pms_ret (pm_callB (cr_all rfl) calls_all (pma_cons (pm_lc false [("one", 3), ("other", 4)] rfl nd (blkOk_by (by kernel_rfl)) (pmi_zip (pma_cons (pm_var 1) (pma_cons (pm_slice false (pm_var 1) (pmo_some pm_int) pmo_none) pma_nil)) g.b_zip) (fun _ _ _ _ _ => (pmg_tup rfl (pmgs_cons (pmg_name (vs := [3, 4]) 3 nd) (pmgs_cons (pmg_name (vs := [3, 4]) 4 nd) pmgs_nil)))) (fun _ _ _ _ _ => pmts_nil) (fun _ _ _ _ _ => (pm_cmp (op_ltA hu) cmp_ltA (pm_var 3) (pm_var 4) (by rfl)))) pma_nil) g.b_all))
 pms_nil))
theorem c_f_need_skips (g : Top K mg) (c_f_are_skips_value : C8.Cal P w K mg base 4 "are_skips_value" (spF K f_are_skips_value) []) (c_f_need_floor : C8.Cal P w K mg base 7 "need_floor" (spF K f_need_floor) []) : C8.Cal P w K mg base 8 "need_skips" (spF K f_need_skips) [] := by
  obtain ⟨f, fd, D, b⟩ := g.d_f_need_skips
  have nd : (["floor", "skips"] : List Str).Nodup := by decide +kernel
  exact cal_fn (N := ["floor", "skips"]) (ps := ["floor", "skips"]) D b (C8.fnScope_by (by decide +kernel)) rfl rfl fun cdv A outer s H E hr => by
    have hu : (A.deeper (envOfC "need_skips" (C8.fnScope (topS 49)) s.heap.objs.size f cdv)).units + 65 < cLine := by have := hr.un; omega
    have hu64 : (A.deeper (envOfC "need_skips" (C8.fnScope (topS 49)) s.heap.objs.size f cdv)).units + 64 < cLine := by omega
    have hu1 : (A.deeper (envOfC "need_skips" (C8.fnScope (topS 49)) s.heap.objs.size f cdv)).units + 1 < cLine := by omega
    exact (pms_cons (pms_expr (pm_call c_f_need_floor hr (by decide) (pma_cons (pm_var 0) pma_nil)))
 (pms_cons (pms_if (pmt_not (pmt_val (pm_call c_f_are_skips_value hr (by decide) (pma_cons (pm_var 0) (pma_cons (pm_var 1) pma_nil)))))
 (pms_cons pms_never
 pms_nil)
 pms_nil)
 pms_nil))
theorem c_f_is_arrangement_value (g : Top K mg) (c_f_is_between : C8.Cal P w K mg base 2 "is_between" (spF K f_is_between) []) : C8.Cal P w K mg base 3 "is_arrangement_value" (spF K f_is_arrangement_value) [] := by
  obtain ⟨f, fd, D, b⟩ := g.d_f_is_arrangement_value
  have nd : (["many", "thing", "dancer"] : List Str).Nodup := by decide +kernel
  exact cal_fn (N := ["many", "thing", "dancer"]) (ps := ["many", "thing"]) D b (C8.fnScope_by (by decide +kernel)) rfl rfl fun cdv A outer s H E hr => by
    have hu : (A.deeper (envOfC "is_arrangement_value" (C8.fnScope (topS 26)) s.heap.objs.size f cdv)).units + 65 < cLine := by have := hr.un; omega
    have hu64 : (A.deeper (envOfC "is_arrangement_value" (C8.fnScope (topS 26)) s.heap.objs.size f cdv)).units + 64 < cLine := by omega
    have hu1 : (A.deeper (envOfC "is_arrangement_value" (C8.fnScope (topS 26)) s.heap.objs.size f cdv)).units + 1 < cLine := by omega
    exact (pms_cons (pms_if (PMW.tt (pmw_or (pmt_not (pmt_val (pm_isa "tuple" (by decide) (pm_var 1) g.b_isinstance g.b_tuple))) (pmw_or1 (pmt_cmp (op_neD hu64) cmp_ne (pm_callB call_len calls_len (pma_cons (pm_var 1) pma_nil) g.b_len) (pm_var 0) (by rfl)))))
 (pms_cons (pms_ret pm_bl)
 pms_nil)
 pms_nil)
 (pms_cons (pms_ret (pm_and (pm_callB (cr_all rfl) calls_all (pma_cons (pm_lc false [("dancer", 2)] rfl nd (blkOk_by (by kernel_rfl)) (pmi_seq (pm_var 1)) (fun _ _ _ _ _ => (pmg_name (vs := [2]) 2 nd)) (fun _ _ _ _ _ => pmts_nil) (fun _ _ _ _ _ => (pm_call c_f_is_between hr (by decide) (pma_cons (pm_var 2) (pma_cons pm_int (pma_cons (pm_sub (pm_var 0) pm_int) pma_nil)))))) pma_nil) g.b_all) (pm_one (pm_cmp (op_eqD hu64) cmp_eq (pm_lenSetI rfl hu (pm_var 1) g.b_len g.b_set) (pm_var 0) (by rfl)))))
 pms_nil))
theorem c_f_need_arrangement (g : Top K mg) (c_f_is_arrangement_value : C8.Cal P w K mg base 3 "is_arrangement_value" (spF K f_is_arrangement_value) []) (c_f_need_floor : C8.Cal P w K mg base 7 "need_floor" (spF K f_need_floor) []) : C8.Cal P w K mg base 8 "need_arrangement" (spF K f_need_arrangement) [] := by
  obtain ⟨f, fd, D, b⟩ := g.d_f_need_arrangement
  have nd : (["floor", "arrangement"] : List Str).Nodup := by decide +kernel
  exact cal_fn (N := ["floor", "arrangement"]) (ps := ["floor", "arrangement"]) D b (C8.fnScope_by (by decide +kernel)) rfl rfl fun cdv A outer s H E hr => by
    have hu : (A.deeper (envOfC "need_arrangement" (C8.fnScope (topS 27)) s.heap.objs.size f cdv)).units + 65 < cLine := by have := hr.un; omega
    have hu64 : (A.deeper (envOfC "need_arrangement" (C8.fnScope (topS 27)) s.heap.objs.size f cdv)).units + 64 < cLine := by omega
    have hu1 : (A.deeper (envOfC "need_arrangement" (C8.fnScope (topS 27)) s.heap.objs.size f cdv)).units + 1 < cLine := by omega
    exact (pms_cons (pms_expr (pm_call c_f_need_floor hr (by decide) (pma_cons (pm_var 0) pma_nil)))
 (pms_cons (pms_if (pmt_not (pmt_val (pm_call c_f_is_arrangement_value hr (by decide) (pma_cons (pm_callB (cr_sumA rfl) calls_sumA (pma_cons (pm_idx hu1 (pm_var 0) pm_int) pma_nil) g.b_sum) (pma_cons (pm_var 1) pma_nil)))))
 (pms_cons pms_never
 pms_nil)
 pms_nil)
 pms_nil))
theorem c_f_arranged (g : Top K mg) : C8.Cal P w K mg base 1 "arranged" (spF K f_arranged) [] := by
  obtain ⟨f, fd, D, b⟩ := g.d_f_arranged
  have nd : (["arrangement", "lead", "found", "seat", "goal"] : List Str).Nodup := by decide +kernel
  exact cal_fn (N := ["arrangement", "lead", "found", "seat", "goal"]) (ps := ["arrangement", "lead"]) D b (C8.fnScope_by (by decide +kernel)) rfl rfl fun cdv A outer s H E hr => by
    have hu : (A.deeper (envOfC "arranged" (C8.fnScope (topS 37)) s.heap.objs.size f cdv)).units + 65 < cLine := by have := hr.un; omega
    have hu64 : (A.deeper (envOfC "arranged" (C8.fnScope (topS 37)) s.heap.objs.size f cdv)).units + 64 < cLine := by omega
    have hu1 : (A.deeper (envOfC "arranged" (C8.fnScope (topS 37)) s.heap.objs.size f cdv)).units + 1 < cLine := by omega
    exact (pms_cons (pms_set 2 nd (pm_mul true (pm_lst false (pma_cons pm_int pma_nil)) (pm_callB call_len calls_len (pma_cons (pm_var 1) pma_nil) g.b_len)))
 (pms_cons (pms_for [3, 4] PassesOwn.never rfl (pmi_enum (pm_var 1) g.b_enumerate) (pmg_tup rfl (pmgs_cons (pmg_name (vs := [3, 4]) 3 nd) (pmgs_cons (pmg_name (vs := [3, 4]) 4 nd) pmgs_nil)))
 (pms_cons (pms_asg (vs := []) (pm_idx hu1 (pm_var 0) (pm_var 3)) (pmg_sub hu1 (pm_var 2) (pm_var 4)))
 pms_nil))
 (pms_cons (pms_ret (pm_callTy call_tuple_of calls_tuple (pma_cons (pm_var 2) pma_nil) g.b_tuple))
 pms_nil)))
theorem c_f_is_call (g : Top K mg) (c_f_is_between : C8.Cal P w K mg base 2 "is_between" (spF K f_is_between) []) : C8.Cal P w K mg base 3 "is_call" (spF K f_is_call) [] := by
  obtain ⟨f, fd, D, b⟩ := g.d_f_is_call
  have nd : (["floor", "thing", "number"] : List Str).Nodup := by decide +kernel
  exact cal_fn (N := ["floor", "thing", "number"]) (ps := ["floor", "thing"]) D b (C8.fnScope_by (by decide +kernel)) rfl rfl fun cdv A outer s H E hr => by
    have hu : (A.deeper (envOfC "is_call" (C8.fnScope (topS 28)) s.heap.objs.size f cdv)).units + 65 < cLine := by have := hr.un; omega
    have hu64 : (A.deeper (envOfC "is_call" (C8.fnScope (topS 28)) s.heap.objs.size f cdv)).units + 64 < cLine := by omega
    have hu1 : (A.deeper (envOfC "is_call" (C8.fnScope (topS 28)) s.heap.objs.size f cdv)).units + 1 < cLine := by omega
    exact (pms_cons (pms_if (PMW.tt (pmw_or (pmt_not (pmt_val (pm_isa "tuple" (by decide) (pm_var 1) g.b_isinstance g.b_tuple))) (pmw_or1 (pmt_not (pmt_val (pm_callB (cr_all rfl) calls_all (pma_cons (pm_lc false [("number", 2)] rfl nd (blkOk_by (by kernel_rfl)) (pmi_seq (pm_var 1)) (fun _ _ _ _ _ => (pmg_name (vs := [2]) 2 nd)) (fun _ _ _ _ _ => pmts_nil) (fun _ _ _ _ _ => (pm_call c_f_is_between hr (by decide) (pma_cons (pm_var 2) (pma_cons pm_int (pma_cons (pm_sub (pm_callB call_len calls_len (pma_cons (pm_idx hu1 (pm_var 0) pm_int) pma_nil) g.b_len) pm_int) pma_nil)))))) pma_nil) g.b_all))))))
 (pms_cons (pms_ret pm_bl)
 pms_nil)
 pms_nil)
 (pms_cons (pms_ret (pm_cmp (op_eqD hu64) cmp_eq (pm_callTy call_list_of (calls_list false) (pma_cons (pm_var 1) pma_nil) g.b_list) (pm_sortSetI false rfl hu (pm_var 1) g.b_sorted g.b_set) (by rfl)))
 pms_nil))
theorem c_f_is_skip_step (g : Top K mg) (c_f_is_between : C8.Cal P w K mg base 2 "is_between" (spF K f_is_between) []) (c_f_is_call : C8.Cal P w K mg base 3 "is_call" (spF K f_is_call) []) (c_f_is_from : C8.Cal P w K mg base 2 "is_from" (spF K f_is_from) []) : C8.Cal P w K mg base 4 "is_skip_step" (spF K f_is_skip_step) [] := by
  obtain ⟨f, fd, D, b⟩ := g.d_f_is_skip_step
  have nd : (["floor", "skips", "thing"] : List Str).Nodup := by decide +kernel
  exact cal_fn (N := ["floor", "skips", "thing"]) (ps := ["floor", "skips", "thing"]) D b (C8.fnScope_by (by decide +kernel)) rfl rfl fun cdv A outer s H E hr => by
    have hu : (A.deeper (envOfC "is_skip_step" (C8.fnScope (topS 43)) s.heap.objs.size f cdv)).units + 65 < cLine := by have := hr.un; omega
    have hu64 : (A.deeper (envOfC "is_skip_step" (C8.fnScope (topS 43)) s.heap.objs.size f cdv)).units + 64 < cLine := by omega
    have hu1 : (A.deeper (envOfC "is_skip_step" (C8.fnScope (topS 43)) s.heap.objs.size f cdv)).units + 1 < cLine := by omega
    exact (pms_cons (pms_if (PMW.tt (pmw_or (pmt_not (pmt_val (pm_isa "tuple" (by decide) (pm_var 2) g.b_isinstance g.b_tuple))) (pmw_or (pmt_cmp (op_eqD hu64) cmp_eq (pm_var 2) (pm_tup pma_nil) (by rfl)) (pmw_or1 (pmt_not (pmt_val (pm_isa "str" (by decide) (pm_idx hu1 (pm_var 2) pm_int) g.b_isinstance g.b_str)))))))
 (pms_cons (pms_ret pm_bl)
 pms_nil)
 pms_nil)
 (pms_cons (pms_if (pmt_cmp (op_eqD hu64) cmp_eq (pm_idx hu1 (pm_var 2) pm_int) (pm_gstr g.k_SKIP.choose_spec) (by rfl))
 (pms_cons (pms_ret (pm_and (pm_cmp (op_eqD hu64) cmp_eq (pm_callB call_len calls_len (pma_cons (pm_var 2) pma_nil) g.b_len) pm_int (by rfl)) (pm_one (pm_call c_f_is_between hr (by decide) (pma_cons (pm_idx hu1 (pm_var 2) pm_int) (pma_cons pm_int (pma_cons (pm_sub (pm_callB call_len calls_len (pma_cons (pm_var 1) pma_nil) g.b_len) pm_int) pma_nil)))))))
 pms_nil)
 pms_nil)
 (pms_cons (pms_if (pmt_cmp (op_eqD hu64) cmp_eq (pm_idx hu1 (pm_var 2) pm_int) (pm_gstr g.k_BEAT.choose_spec) (by rfl))
 (pms_cons (pms_ret (pm_and (pm_cmp (op_eqD hu64) cmp_eq (pm_callB call_len calls_len (pma_cons (pm_var 2) pma_nil) g.b_len) pm_int (by rfl)) (pm_one (pm_call c_f_is_call hr (by decide) (pma_cons (pm_var 0) (pma_cons (pm_idx hu1 (pm_var 2) pm_int) pma_nil))))))
 pms_nil)
 pms_nil)
 (pms_cons (pms_ret (pm_and (pm_cmp (op_eqD hu64) cmp_eq (pm_idx hu1 (pm_var 2) pm_int) (pm_gstr g.k_TIMES.choose_spec) (by rfl)) (pm_and (pm_cmp (op_eqD hu64) cmp_eq (pm_callB call_len calls_len (pma_cons (pm_var 2) pma_nil) g.b_len) pm_int (by rfl)) (pm_one (pm_call c_f_is_from hr (by decide) (pma_cons (pm_idx hu1 (pm_var 2) pm_int) (pma_cons pm_int pma_nil)))))))
 pms_nil))))
theorem c_f_is_skip_plan (g : Top K mg) (c_f_is_skip_step : C8.Cal P w K mg base 4 "is_skip_step" (spF K f_is_skip_step) []) : C8.Cal P w K mg base 5 "is_skip_plan" (spF K f_is_skip_plan) [] := by
  obtain ⟨f, fd, D, b⟩ := g.d_f_is_skip_plan
  have nd : (["floor", "skips", "thing", "waiting", "plan", "step"] : List Str).Nodup := by decide +kernel
  exact cal_fn (N := ["floor", "skips", "thing", "waiting", "plan", "step"]) (ps := ["floor", "skips", "thing"]) D b (C8.fnScope_by (by decide +kernel)) rfl rfl fun cdv A outer s H E hr => by
    have hu : (A.deeper (envOfC "is_skip_plan" (C8.fnScope (topS 44)) s.heap.objs.size f cdv)).units + 65 < cLine := by have := hr.un; omega
    have hu64 : (A.deeper (envOfC "is_skip_plan" (C8.fnScope (topS 44)) s.heap.objs.size f cdv)).units + 64 < cLine := by omega
    have hu1 : (A.deeper (envOfC "is_skip_plan" (C8.fnScope (topS 44)) s.heap.objs.size f cdv)).units + 1 < cLine := by omega
    exact (pms_cons (pms_set 3 nd (pm_lst true (pma_cons (pm_var 2) pma_nil)))
 (pms_cons (pms_while [4] PassesOwn.never (pmt_cmp (op_neD hu64) cmp_ne (pm_var 3) (pm_lst false pma_nil) (by rfl))
 (pms_cons (pms_set 4 nd (pm_mtL0 slot_pop ty_pop mt_pop mts_pop (pm_var 3)))
 (pms_cons (pms_if (PMW.tt (pmw_or (pmt_not (pmt_val (pm_isa "tuple" (by decide) (pm_var 4) g.b_isinstance g.b_tuple))) (pmw_or1 (pmt_not (pmt_val (pm_callB (cr_all rfl) calls_all (pma_cons (pm_lc false [("step", 5)] rfl nd (blkOk_by (by kernel_rfl)) (pmi_seq (pm_var 4)) (fun _ _ _ _ _ => (pmg_name (vs := [5]) 5 nd)) (fun _ _ _ _ _ => pmts_nil) (fun _ _ _ _ _ => (pm_call c_f_is_skip_step hr (by decide) (pma_cons (pm_var 0) (pma_cons (pm_var 1) (pma_cons (pm_var 5) pma_nil)))))) pma_nil) g.b_all))))))
 (pms_cons (pms_ret pm_bl)
 pms_nil)
 pms_nil)
 (pms_cons (pms_expr (pm_mtL slot_extend ty_extend mt_extend mts_extend (pm_var 3) (pma_cons (pm_lc false [("step", 5)] rfl nd (blkOk_by (by kernel_rfl)) (pmi_seq (pm_var 4)) (fun _ _ _ _ _ => (pmg_name (vs := [5]) 5 nd)) (fun _ _ _ _ _ => (pmts_one (pmt_cmp (op_eqD hu64) cmp_eq (pm_idx hu1 (pm_var 5) pm_int) (pm_gstr g.k_TIMES.choose_spec) (by rfl)))) (fun _ _ _ _ _ => (pm_idx hu1 (pm_var 5) pm_int))) pma_nil)))
 pms_nil))))
 (pms_cons (pms_ret pm_bl)
 pms_nil)))
theorem c_f_followed (g : Top K mg) : C8.Cal P w K mg base 1 "followed" (spF K f_followed) [] := by
  obtain ⟨f, fd, D, b⟩ := g.d_f_followed
  have nd : (["first", "second", "seat"] : List Str).Nodup := by decide +kernel
  exact cal_fn (N := ["first", "second", "seat"]) (ps := ["first", "second"]) D b (C8.fnScope_by (by decide +kernel)) rfl rfl fun cdv A outer s H E hr => by
    have hu : (A.deeper (envOfC "followed" (C8.fnScope (topS 32)) s.heap.objs.size f cdv)).units + 65 < cLine := by have := hr.un; omega
    have hu64 : (A.deeper (envOfC "followed" (C8.fnScope (topS 32)) s.heap.objs.size f cdv)).units + 64 < cLine := by omega
    have hu1 : (A.deeper (envOfC "followed" (C8.fnScope (topS 32)) s.heap.objs.size f cdv)).units + 1 < cLine := by omega
    exact (pms_cons (pms_ret (pm_lc false [("seat", 2)] rfl nd (blkOk_by (by kernel_rfl)) (pmi_seq (pm_var 0)) (fun _ _ _ _ _ => (pmg_name (vs := [2]) 2 nd)) (fun _ _ _ _ _ => pmts_nil) (fun _ _ _ _ _ => (pm_idx hu1 (pm_var 1) (pm_var 2)))))
 pms_nil)
theorem c_f_map_power (g : Top K mg) (c_f_followed : C8.Cal P w K mg base 1 "followed" (spF K f_followed) []) : C8.Cal P w K mg base 2 "map_power" (spF K f_map_power) [] := by
  obtain ⟨f, fd, D, b⟩ := g.d_f_map_power
  have nd : (["lead", "k", "found", "square"] : List Str).Nodup := by decide +kernel
  exact cal_fn (N := ["lead", "k", "found", "square"]) (ps := ["lead", "k"]) D b (C8.fnScope_by (by decide +kernel)) rfl rfl fun cdv A outer s H E hr => by
    have hu : (A.deeper (envOfC "map_power" (C8.fnScope (topS 33)) s.heap.objs.size f cdv)).units + 65 < cLine := by have := hr.un; omega
    have hu64 : (A.deeper (envOfC "map_power" (C8.fnScope (topS 33)) s.heap.objs.size f cdv)).units + 64 < cLine := by omega
    have hu1 : (A.deeper (envOfC "map_power" (C8.fnScope (topS 33)) s.heap.objs.size f cdv)).units + 1 < cLine := by omega
    exact (pms_cons (pms_par 2 3 rfl nd (pma_cons (pm_listRg false rfl (pm_callB call_len calls_len (pma_cons (pm_var 0) pma_nil) g.b_len) g.b_list g.b_range) (pma_cons (pm_var 0) pma_nil)))
 (pms_cons (pms_while [] PassesOwn.never (pmt_cmp op_gt cmp_int (pm_var 1) pm_int (by rfl))
 (pms_cons (pms_if (pmt_cmp (op_eqD hu64) cmp_eq (pm_mod (pm_var 1) pm_int) pm_int (by rfl))
 (pms_cons (pms_set 2 nd (pm_call c_f_followed hr (by decide) (pma_cons (pm_var 2) (pma_cons (pm_var 3) pma_nil))))
 pms_nil)
 pms_nil)
 (pms_cons (pms_set 3 nd (pm_call c_f_followed hr (by decide) (pma_cons (pm_var 3) (pma_cons (pm_var 3) pma_nil))))
 (pms_cons (pms_set 1 nd (pm_div (pm_var 1) pm_int))
 pms_nil))))
 (pms_cons (pms_ret (pm_var 2))
 pms_nil)))
theorem c_f_places_of (g : Top K mg) : C8.Cal P w K mg base 1 "places_of" (spF K f_places_of) [] := by
  obtain ⟨f, fd, D, b⟩ := g.d_f_places_of
  have nd : (["rings", "ring", "length", "at"] : List Str).Nodup := by decide +kernel
  exact cal_fn (N := ["rings", "ring", "length", "at"]) (ps := ["rings"]) D b (C8.fnScope_by (by decide +kernel)) rfl rfl fun cdv A outer s H E hr => by
    have hu : (A.deeper (envOfC "places_of" (C8.fnScope (topS 18)) s.heap.objs.size f cdv)).units + 65 < cLine := by have := hr.un; omega
    have hu64 : (A.deeper (envOfC "places_of" (C8.fnScope (topS 18)) s.heap.objs.size f cdv)).units + 64 < cLine := by omega
    have hu1 : (A.deeper (envOfC "places_of" (C8.fnScope (topS 18)) s.heap.objs.size f cdv)).units + 1 < cLine := by omega
    exact (pms_cons (pms_ret (pm_lc2 false [("ring", 1), ("length", 2), ("at", 3)] [3] rfl nd (blkOk_by (by kernel_rfl)) (pmi_enum (pm_var 0) g.b_enumerate) (fun _ _ _ _ _ => (pmg_tup rfl (pmgs_cons (pmg_name (vs := [1, 2, 3]) 1 nd) (pmgs_cons (pmg_name (vs := [1, 2, 3]) 2 nd) pmgs_nil)))) (fun _ _ _ _ _ => pmts_nil) (fun _ _ _ _ _ => (pmi_rng1 (pma_cons (pm_var 2) pma_nil) g.b_range)) (fun _ _ _ _ _ => (pmg_name (vs := [3]) 3 nd)) (fun _ _ _ _ _ => pmts_nil) (fun _ _ _ _ _ => (pm_tup (pma_cons (pm_var 1) (pma_cons (pm_var 3) pma_nil))))))
 pms_nil)
theorem c_f_seat_of (g : Top K mg) : C8.Cal P w K mg base 1 "seat_of" (spF K f_seat_of) [] := by
  obtain ⟨f, fd, D, b⟩ := g.d_f_seat_of
  have nd : (["rings", "place"] : List Str).Nodup := by decide +kernel
  exact cal_fn (N := ["rings", "place"]) (ps := ["rings", "place"]) D b (C8.fnScope_by (by decide +kernel)) rfl rfl fun cdv A outer s H E hr => by
    have hu : (A.deeper (envOfC "seat_of" (C8.fnScope (topS 19)) s.heap.objs.size f cdv)).units + 65 < cLine := by have := hr.un; omega
    have hu64 : (A.deeper (envOfC "seat_of" (C8.fnScope (topS 19)) s.heap.objs.size f cdv)).units + 64 < cLine := by omega
    have hu1 : (A.deeper (envOfC "seat_of" (C8.fnScope (topS 19)) s.heap.objs.size f cdv)).units + 1 < cLine := by omega
    exact (pms_cons (pms_ret (pm_add false (pm_callB (cr_sumA rfl) calls_sumA (pma_cons (pm_slice false (pm_var 0) pmo_none (pmo_some (pm_idx hu1 (pm_var 1) pm_int))) pma_nil) g.b_sum) (pm_idx hu1 (pm_var 1) pm_int)))
 pms_nil)
theorem c_f_place_behind (g : Top K mg) : C8.Cal P w K mg base 1 "place_behind" (spF K f_place_behind) [] := by
  obtain ⟨f, fd, D, b⟩ := g.d_f_place_behind
  have nd : (["rings", "place", "k"] : List Str).Nodup := by decide +kernel
  exact cal_fn (N := ["rings", "place", "k"]) (ps := ["rings", "place", "k"]) D b (C8.fnScope_by (by decide +kernel)) rfl rfl fun cdv A outer s H E hr => by
    have hu : (A.deeper (envOfC "place_behind" (C8.fnScope (topS 20)) s.heap.objs.size f cdv)).units + 65 < cLine := by have := hr.un; omega
    have hu64 : (A.deeper (envOfC "place_behind" (C8.fnScope (topS 20)) s.heap.objs.size f cdv)).units + 64 < cLine := by omega
    have hu1 : (A.deeper (envOfC "place_behind" (C8.fnScope (topS 20)) s.heap.objs.size f cdv)).units + 1 < cLine := by omega
    exact (pms_cons (pms_ret (pm_tup (pma_cons (pm_idx hu1 (pm_var 1) pm_int) (pma_cons (pm_mod (pm_add false (pm_idx hu1 (pm_var 1) pm_int) (pm_var 2)) (pm_idx hu1 (pm_var 0) (pm_idx hu1 (pm_var 1) pm_int))) pma_nil))))
 pms_nil)
theorem c_f_skip_map (g : Top K mg) (c_f_place_behind : C8.Cal P w K mg base 1 "place_behind" (spF K f_place_behind) []) (c_f_places_of : C8.Cal P w K mg base 1 "places_of" (spF K f_places_of) []) (c_f_seat_of : C8.Cal P w K mg base 1 "seat_of" (spF K f_seat_of) []) : C8.Cal P w K mg base 2 "skip_map" (spF K f_skip_map) [] := by
  obtain ⟨f, fd, D, b⟩ := g.d_f_skip_map
  have nd : (["floor", "skip", "found", "seat", "place"] : List Str).Nodup := by decide +kernel
  exact cal_fn (N := ["floor", "skip", "found", "seat", "place"]) (ps := ["floor", "skip"]) D b (C8.fnScope_by (by decide +kernel)) rfl rfl fun cdv A outer s H E hr => by
    have hu : (A.deeper (envOfC "skip_map" (C8.fnScope (topS 45)) s.heap.objs.size f cdv)).units + 65 < cLine := by have := hr.un; omega
    have hu64 : (A.deeper (envOfC "skip_map" (C8.fnScope (topS 45)) s.heap.objs.size f cdv)).units + 64 < cLine := by omega
    have hu1 : (A.deeper (envOfC "skip_map" (C8.fnScope (topS 45)) s.heap.objs.size f cdv)).units + 1 < cLine := by omega
    exact (pms_cons (pms_set 2 nd (pm_lst true pma_nil))
 (pms_cons (pms_for [3, 4] PassesOwn.never rfl (pmi_enum (pm_call c_f_places_of hr (by decide) (pma_cons (pm_idx hu1 (pm_var 0) pm_int) pma_nil)) g.b_enumerate) (pmg_tup rfl (pmgs_cons (pmg_name (vs := [3, 4]) 3 nd) (pmgs_cons (pmg_name (vs := [3, 4]) 4 nd) pmgs_nil)))
 (pms_cons (pms_expr (pm_mtL slot_append ty_append mt_append mts_append (pm_var 2) (pma_cons (pm_ifExp (pmt_cmp (op_eqD hu64) cmp_eq (pm_idx hu1 (pm_var 4) pm_int) (pm_idx hu1 (pm_var 1) pm_int) (by rfl)) (pm_call c_f_seat_of hr (by decide) (pma_cons (pm_idx hu1 (pm_var 0) pm_int) (pma_cons (pm_call c_f_place_behind hr (by decide) (pma_cons (pm_idx hu1 (pm_var 0) pm_int) (pma_cons (pm_var 4) (pma_cons (pm_idx hu1 (pm_var 1) pm_int) pma_nil)))) pma_nil))) (pm_var 3)) pma_nil)))
 pms_nil))
 (pms_cons (pms_ret (pm_frz 2))
 pms_nil)))
theorem c_f_seat_touches (g : Top K mg) (c_f_seat_of : C8.Cal P w K mg base 1 "seat_of" (spF K f_seat_of) []) : C8.Cal P w K mg base 2 "seat_touches" (spF K f_seat_touches) [] := by
  obtain ⟨f, fd, D, b⟩ := g.d_f_seat_touches
  have nd : (["floor", "one", "other"] : List Str).Nodup := by decide +kernel
  exact cal_fn (N := ["floor", "one", "other"]) (ps := ["floor"]) D b (C8.fnScope_by (by decide +kernel)) rfl rfl fun cdv A outer s H E hr => by
    have hu : (A.deeper (envOfC "seat_touches" (C8.fnScope (topS 22)) s.heap.objs.size f cdv)).units + 65 < cLine := by have := hr.un; omega
    have hu64 : (A.deeper (envOfC "seat_touches" (C8.fnScope (topS 22)) s.heap.objs.size f cdv)).units + 64 < cLine := by omega
    have hu1 : (A.deeper (envOfC "seat_touches" (C8.fnScope (topS 22)) s.heap.objs.size f cdv)).units + 1 < cLine := by omega
    exact (pms_cons (pms_ret (pm_lc false [("one", 1), ("other", 2)] rfl nd (blkOk_by (by kernel_rfl)) (pmi_seq (pm_idx hu1 (pm_var 0) pm_int)) (fun _ _ _ _ _ => (pmg_tup rfl (pmgs_cons (pmg_name (vs := [1, 2]) 1 nd) (pmgs_cons (pmg_name (vs := [1, 2]) 2 nd) pmgs_nil)))) (fun _ _ _ _ _ => pmts_nil) (fun _ _ _ _ _ => (pm_tup (pma_cons (pm_call c_f_seat_of hr (by decide) (pma_cons (pm_idx hu1 (pm_var 0) pm_int) (pma_cons (pm_var 1) pma_nil))) (pma_cons (pm_call c_f_seat_of hr (by decide) (pma_cons (pm_idx hu1 (pm_var 0) pm_int) (pma_cons (pm_var 2) pma_nil))) pma_nil))))))
 pms_nil)
theorem ca_f_step_seats (g : Top K mg) (c_f_place_behind : C8.Cal P w K mg base 1 "place_behind" (spF K f_place_behind) []) (c_f_places_of : C8.Cal P w K mg base 1 "places_of" (spF K f_places_of) []) (c_f_seat_of : C8.Cal P w K mg base 1 "seat_of" (spF K f_seat_of) []) : C8.Cal P w K mg base 2 "step_seats" (spF K f_step_seats) [.int 1] := by
  obtain ⟨f, fd, D, ⟨ds, bd, bb⟩⟩ := g.d_f_step_seats
  have nd : (["rings", "k", "place"] : List Str).Nodup := by decide +kernel
  have ca : CalA P w K mg base 2 "step_seats" f fd ["rings", "k"] (spF K f_step_seats) := cal_fnA (N := ["rings", "k", "place"]) (ps := ["rings", "k"]) D (C8.fnScope_by (by decide +kernel)) rfl rfl fun cdv A outer s H E hr => by
    have hu : (A.deeper (envOfC "step_seats" (C8.fnScope (topS 21)) s.heap.objs.size f cdv)).units + 65 < cLine := by have := hr.un; omega
    have hu64 : (A.deeper (envOfC "step_seats" (C8.fnScope (topS 21)) s.heap.objs.size f cdv)).units + 64 < cLine := by omega
    have hu1 : (A.deeper (envOfC "step_seats" (C8.fnScope (topS 21)) s.heap.objs.size f cdv)).units + 1 < cLine := by omega
    exact (pms_cons (pms_ret (pm_lc false [("place", 2)] rfl nd (blkOk_by (by kernel_rfl)) (pmi_seq (pm_call c_f_places_of hr (by decide) (pma_cons (pm_var 0) pma_nil))) (fun _ _ _ _ _ => (pmg_name (vs := [2]) 2 nd)) (fun _ _ _ _ _ => pmts_nil) (fun _ _ _ _ _ => (pm_call c_f_seat_of hr (by decide) (pma_cons (pm_var 0) (pma_cons (pm_call c_f_place_behind hr (by decide) (pma_cons (pm_var 0) (pma_cons (pm_var 2) (pma_cons (pm_var 1) pma_nil)))) pma_nil))))))
 pms_nil)
  exact ca.cal bb bd
theorem c_f_call_map (g : Top K mg) (c_f_seat_touches : C8.Cal P w K mg base 2 "seat_touches" (spF K f_seat_touches) []) (cd_f_step_seats : C8.Cal P w K mg base 2 "step_seats" (spF K f_step_seats) [.int 1]) : C8.Cal P w K mg base 3 "call_map" (spF K f_call_map) [] := by
  obtain ⟨f, fd, D, b⟩ := g.d_f_call_map
  have nd : (["floor", "call", "swaps", "touches", "number", "near", "far", "seat"] : List Str).Nodup := by decide +kernel
  exact cal_fn (N := ["floor", "call", "swaps", "touches", "number", "near", "far", "seat"]) (ps := ["floor", "call"]) D b (C8.fnScope_by (by decide +kernel)) rfl rfl fun cdv A outer s H E hr => by
    have hu : (A.deeper (envOfC "call_map" (C8.fnScope (topS 34)) s.heap.objs.size f cdv)).units + 65 < cLine := by have := hr.un; omega
    have hu64 : (A.deeper (envOfC "call_map" (C8.fnScope (topS 34)) s.heap.objs.size f cdv)).units + 64 < cLine := by omega
    have hu1 : (A.deeper (envOfC "call_map" (C8.fnScope (topS 34)) s.heap.objs.size f cdv)).units + 1 < cLine := by omega
    exact (pms_cons (pms_asg (vs := [2, 3]) (pm_tup (pma_cons (pm_dK0 true) (pma_cons (pm_call c_f_seat_touches hr (by decide) (pma_cons (pm_var 0) pma_nil)) pma_nil))) (pmg_tup rfl (pmgs_cons (pmg_name (vs := [2, 3]) 2 nd) (pmgs_cons (pmg_name (vs := [2, 3]) 3 nd) pmgs_nil))))
 (pms_cons (pms_for [4, 5, 6] PassesOwn.never rfl (pmi_seq (pm_var 1)) (pmg_name (vs := [4]) 4 nd)
 (pms_cons (pms_asg (vs := [5, 6]) (pm_idx hu1 (pm_var 3) (pm_var 4)) (pmg_tup rfl (pmgs_cons (pmg_name (vs := [5, 6]) 5 nd) (pmgs_cons (pmg_name (vs := [5, 6]) 6 nd) pmgs_nil))))
 (pms_cons (pms_asg (vs := []) (pm_var 6) (pmg_sub hu1 (pm_var 2) (pm_var 5)))
 (pms_cons (pms_asg (vs := []) (pm_var 5) (pmg_sub hu1 (pm_var 2) (pm_var 6)))
 pms_nil))))
 (pms_cons (pms_ret (pm_lc false [("seat", 7)] rfl nd (blkOk_by (by kernel_rfl)) (pmi_seq (pm_callD cd_f_step_seats hr (by decide) (pma_cons (pm_idx hu1 (pm_var 0) pm_int) pma_nil) (fun _ _ _ => (RVs.cons rv_int RVs.nil)))) (fun _ _ _ _ _ => (pmg_name (vs := [7]) 7 nd)) (fun _ _ _ _ _ => pmts_nil) (fun _ _ _ _ _ => (pm_get2 hu1 (pm_var 2) (pm_var 7) (pm_var 7)))))
 pms_nil)))
theorem cg_f_map_skipped (g : Top K mg) (c_f_followed : C8.Cal P w K mg base 1 "followed" (spF K f_followed) []) (k : Nat) (hk0 : 3 ≤ k) {S : Fn} (cS : C8.Cal P w K mg base k "step_skipped" (spF K S) []) : C8.Cal P w K mg base (k + 1) "map_skipped" (spF K (g_f_map_skipped S)) [] := by
  obtain ⟨f, fd, D, b⟩ := g.d_f_map_skipped
  have nd : (["floor", "skips", "plan", "found", "step"] : List Str).Nodup := by decide +kernel
  exact cal_fn (N := ["floor", "skips", "plan", "found", "step"]) (ps := ["floor", "skips", "plan"]) D b (C8.fnScope_by (by decide +kernel)) rfl rfl fun cdv A outer s H E hr => by
    have hu : (A.deeper (envOfC "map_skipped" (C8.fnScope (topS 47)) s.heap.objs.size f cdv)).units + 65 < cLine := by have := hr.un; omega
    have hu64 : (A.deeper (envOfC "map_skipped" (C8.fnScope (topS 47)) s.heap.objs.size f cdv)).units + 64 < cLine := by omega
    have hu1 : (A.deeper (envOfC "map_skipped" (C8.fnScope (topS 47)) s.heap.objs.size f cdv)).units + 1 < cLine := by omega
    exact (pms_cons (pms_set 3 nd (pm_listRg false rfl (pm_callB (cr_sumA rfl) calls_sumA (pma_cons (pm_idx hu1 (pm_var 0) pm_int) pma_nil) g.b_sum) g.b_list g.b_range))
 (pms_cons (pms_for [4] PassesOwn.never rfl (pmi_seq (pm_var 2)) (pmg_name (vs := [4]) 4 nd)
 (pms_cons (pms_set 3 nd (pm_call c_f_followed hr (by omega) (pma_cons (pm_var 3) (pma_cons (pm_call cS hr (by omega) (pma_cons (pm_var 0) (pma_cons (pm_var 1) (pma_cons (pm_var 4) pma_nil)))) pma_nil))))
 pms_nil))
 (pms_cons (pms_ret (pm_var 3))
 pms_nil)))
theorem c_f_step_skipped (g : Top K mg) (c_f_call_map : C8.Cal P w K mg base 3 "call_map" (spF K f_call_map) []) (c_f_followed : C8.Cal P w K mg base 1 "followed" (spF K f_followed) []) (c_f_map_power : C8.Cal P w K mg base 2 "map_power" (spF K f_map_power) []) (c_f_skip_map : C8.Cal P w K mg base 2 "skip_map" (spF K f_skip_map) []) : ∀ n : Nat, C8.Cal P w K mg base (3 + 2 * n + 1) "step_skipped" (spF K (f_step_skipped n)) []
  | 0 => by
    obtain ⟨f, fd, D, b⟩ := g.d_f_step_skipped
    exact cal_stuck D b
  | n + 1 => by
    have cA := c_f_step_skipped g c_f_call_map c_f_followed c_f_map_power c_f_skip_map n
    have cB := cg_f_map_skipped g c_f_followed (3 + 2 * n + 1) (by omega) cA
    obtain ⟨f, fd, D, b⟩ := g.d_f_step_skipped
    have nd : (["floor", "skips", "step"] : List Str).Nodup := by decide +kernel
    show C8.Cal P w K mg base ((3 + 2 * n + 2) + 1) "step_skipped" _ []
    exact cal_fn (N := ["floor", "skips", "step"]) (ps := ["floor", "skips", "step"]) D b (C8.fnScope_by (by decide +kernel)) rfl rfl fun cdv A outer s H E hr => by
      have hu : (A.deeper (envOfC "step_skipped" (C8.fnScope (topS 46)) s.heap.objs.size f cdv)).units + 65 < cLine := by have := hr.un; omega
      have hu64 : (A.deeper (envOfC "step_skipped" (C8.fnScope (topS 46)) s.heap.objs.size f cdv)).units + 64 < cLine := by omega
      have hu1 : (A.deeper (envOfC "step_skipped" (C8.fnScope (topS 46)) s.heap.objs.size f cdv)).units + 1 < cLine := by omega
      exact (pms_cons (pms_if (pmt_cmp (op_eqD hu64) cmp_eq (pm_idx hu1 (pm_var 2) pm_int) (pm_gstr g.k_SKIP.choose_spec) (by rfl))
   (pms_cons (pms_ret (pm_call c_f_skip_map hr (by omega) (pma_cons (pm_var 0) (pma_cons (pm_idx hu1 (pm_var 1) (pm_idx hu1 (pm_var 2) pm_int)) pma_nil))))
   pms_nil)
   pms_nil)
   (pms_cons (pms_if (pmt_cmp (op_eqD hu64) cmp_eq (pm_idx hu1 (pm_var 2) pm_int) (pm_gstr g.k_BEAT.choose_spec) (by rfl))
   (pms_cons (pms_ret (pm_call c_f_call_map hr (by omega) (pma_cons (pm_var 0) (pma_cons (pm_idx hu1 (pm_var 2) pm_int) pma_nil))))
   pms_nil)
   pms_nil)
   (pms_cons (pms_ret (pm_call c_f_map_power hr (by omega) (pma_cons (pm_call cB hr (by omega) (pma_cons (pm_var 0) (pma_cons (pm_var 1) (pma_cons (pm_idx hu1 (pm_var 2) pm_int) pma_nil)))) (pma_cons (pm_idx hu1 (pm_var 2) pm_int) pma_nil))))
   pms_nil)))
theorem c_f_map_skipped (g : Top K mg) (c_f_call_map : C8.Cal P w K mg base 3 "call_map" (spF K f_call_map) []) (c_f_followed : C8.Cal P w K mg base 1 "followed" (spF K f_followed) []) (c_f_map_power : C8.Cal P w K mg base 2 "map_power" (spF K f_map_power) []) (c_f_skip_map : C8.Cal P w K mg base 2 "skip_map" (spF K f_skip_map) []) : C8.Cal P w K mg base 17 "map_skipped" (spF K f_map_skipped) [] := cg_f_map_skipped g c_f_followed 16 (by decide) (c_f_step_skipped g c_f_call_map c_f_followed c_f_map_power c_f_skip_map 6)
theorem ca_f_skipped_after (g : Top K mg) (c_f_arranged : C8.Cal P w K mg base 1 "arranged" (spF K f_arranged) []) (c_f_is_skip_plan : C8.Cal P w K mg base 5 "is_skip_plan" (spF K f_is_skip_plan) []) (c_f_map_skipped : C8.Cal P w K mg base 17 "map_skipped" (spF K f_map_skipped) []) (c_f_need_arrangement : C8.Cal P w K mg base 8 "need_arrangement" (spF K f_need_arrangement) []) (c_f_need_skips : C8.Cal P w K mg base 8 "need_skips" (spF K f_need_skips) []) : C8.Cal P w K mg base 18 "skipped_after" (spF K f_skipped_after) [] ∧ CalK P w K mg base 18 "skipped_after" ["plan", "arrangement", "skips", "floor"] [3, 2, 1, 0] (spF K f_skipped_after) := by
  obtain ⟨f, fd, D, b, bk0⟩ := g.d_f_skipped_after
  have nd : (["floor", "skips", "arrangement", "plan"] : List Str).Nodup := by decide +kernel
  have ca : CalA P w K mg base 18 "skipped_after" f fd ["floor", "skips", "arrangement", "plan"] (spF K f_skipped_after) := cal_fnA (N := ["floor", "skips", "arrangement", "plan"]) (ps := ["floor", "skips", "arrangement", "plan"]) D (C8.fnScope_by (by decide +kernel)) rfl rfl fun cdv A outer s H E hr => by
    have hu : (A.deeper (envOfC "skipped_after" (C8.fnScope (topS 50)) s.heap.objs.size f cdv)).units + 65 < cLine := by have := hr.un; omega
    have hu64 : (A.deeper (envOfC "skipped_after" (C8.fnScope (topS 50)) s.heap.objs.size f cdv)).units + 64 < cLine := by omega
    have hu1 : (A.deeper (envOfC "skipped_after" (C8.fnScope (topS 50)) s.heap.objs.size f cdv)).units + 1 < cLine := by omega
    exact (pms_cons (pms_expr (pm_call c_f_need_skips hr (by decide) (pma_cons (pm_var 0) (pma_cons (pm_var 1) pma_nil))))
 (pms_cons (pms_expr (pm_call c_f_need_arrangement hr (by decide) (pma_cons (pm_var 0) (pma_cons (pm_var 2) pma_nil))))
 (pms_cons (pms_if (pmt_not (pmt_val (pm_call c_f_is_skip_plan hr (by decide) (pma_cons (pm_var 0) (pma_cons (pm_var 1) (pma_cons (pm_var 3) pma_nil))))))
 (pms_cons pms_never
 pms_nil)
 pms_nil)
 (pms_cons (pms_ret (pm_call c_f_arranged hr (by decide) (pma_cons (pm_var 2) (pma_cons (pm_call c_f_map_skipped hr (by decide) (pma_cons (pm_var 0) (pma_cons (pm_var 1) (pma_cons (pm_var 3) pma_nil)))) pma_nil))))
 pms_nil))))
  exact ⟨ca.cal b .nil, ca.calK bk0⟩
theorem c_f_law_same (g : Top K mg) : ∀ n : Nat, C8.Cal P w K mg base (0 + n + 1) "_law_same" (spF K (f_law_same n)) []
  | 0 => by
    obtain ⟨f, fd, D, b⟩ := g.d_f_law_same
    exact cal_stuck D b
  | n + 1 => by
    have c_f_law_same := fun (_ : Nat) => c_f_law_same g  n
    obtain ⟨f, fd, D, b⟩ := g.d_f_law_same
    have nd : (["_law_one", "_law_due", "_law_a", "_law_b"] : List Str).Nodup := by decide +kernel
    show C8.Cal P w K mg base ((0 + n + 1) + 1) "_law_same" _ []
    exact cal_fn (N := ["_law_one", "_law_due", "_law_a", "_law_b"]) (ps := ["_law_one", "_law_due"]) D b (C8.fnScope_by (by decide +kernel)) rfl rfl fun cdv A outer s H E hr => by
      have hu : (A.deeper (envOfC "_law_same" (C8.fnScope (topS 57)) s.heap.objs.size f cdv)).units + 65 < cLine := by have := hr.un; omega
      have hu64 : (A.deeper (envOfC "_law_same" (C8.fnScope (topS 57)) s.heap.objs.size f cdv)).units + 64 < cLine := by omega
      have hu1 : (A.deeper (envOfC "_law_same" (C8.fnScope (topS 57)) s.heap.objs.size f cdv)).units + 1 < cLine := by omega
      exact (pms_cons (pms_if (pmt_val (pm_isa "tuple" (by decide) (pm_var 1) g.b_isinstance g.b_tuple))
   (pms_cons (pms_if (PMW.tt (pmw_or (pmt_not (pmt_val (pm_isa "tuple" (by decide) (pm_var 0) g.b_isinstance g.b_tuple))) (pmw_or1 (pmt_cmp (op_neD hu64) cmp_ne (pm_callB call_len calls_len (pma_cons (pm_var 0) pma_nil) g.b_len) (pm_callB call_len calls_len (pma_cons (pm_var 1) pma_nil) g.b_len) (by rfl)))))
   (pms_cons (pms_ret pm_bl)
   pms_nil)
   pms_nil)
   (pms_cons (pms_ret (pm_cmp (op_eqD hu64) cmp_eq (pm_lc false [("_law_a", 2), ("_law_b", 3)] rfl nd (blkOk_by (by kernel_rfl)) (pmi_zip (pma_cons (pm_var 0) (pma_cons (pm_var 1) pma_nil)) g.b_zip) (fun _ _ _ _ _ => (pmg_tup rfl (pmgs_cons (pmg_name (vs := [2, 3]) 2 nd) (pmgs_cons (pmg_name (vs := [2, 3]) 3 nd) pmgs_nil)))) (fun _ _ _ _ _ => (pmts_one (pmt_not (pmt_val (pm_call (c_f_law_same n) hr (by omega) (pma_cons (pm_var 2) (pma_cons (pm_var 3) pma_nil))))))) (fun _ _ _ _ _ => pm_int)) (pm_lst false pma_nil) (by rfl)))
   pms_nil))
   pms_nil)
   (pms_cons (pms_if (pmt_cmp op_isAll cmp_is (pm_var 1) pm_non (by rfl))
   (pms_cons (pms_ret (pm_cmp op_isAll cmp_is (pm_var 0) pm_non (by rfl)))
   pms_nil)
   pms_nil)
   (pms_cons (pms_if (PMW.tt (pmw_or (pmt_cmp op_isAll cmp_is (pm_var 1) pm_bl (by rfl)) (pmw_or1 (pmt_cmp op_isAll cmp_is (pm_var 1) pm_bl (by rfl)))))
   (pms_cons (pms_ret (pm_and (pm_isa "bool" (by decide) (pm_var 0) g.b_isinstance g.b_bool) (pm_one (pm_cmp (op_eqD hu64) cmp_eq (pm_var 0) (pm_var 1) (by rfl)))))
   pms_nil)
   pms_nil)
   (pms_cons (pms_if (pmt_val (pm_isa "str" (by decide) (pm_var 1) g.b_isinstance g.b_str))
   (pms_cons (pms_ret (pm_and (pm_isa "str" (by decide) (pm_var 0) g.b_isinstance g.b_str) (pm_one (pm_cmp (op_eqD hu64) cmp_eq (pm_var 0) (pm_var 1) (by rfl)))))
   pms_nil)
   pms_nil)
   (pms_cons (pms_ret (pm_and (pm_isa "int" (by decide) (pm_var 0) g.b_isinstance g.b_int) (pm_and (pm_not (pm_isa "bool" (by decide) (pm_var 0) g.b_isinstance g.b_bool)) (pm_one (pm_cmp (op_eqD hu64) cmp_eq (pm_var 0) (pm_var 1) (by rfl))))))
   pms_nil)))))
theorem c_f_law_gcd (g : Top K mg) : C8.Cal P w K mg base 1 "_law_gcd" (spF K f_law_gcd) [] := by
  obtain ⟨f, fd, D, b⟩ := g.d_f_law_gcd
  have nd : (["_law_a", "_law_b"] : List Str).Nodup := by decide +kernel
  exact cal_fn (N := ["_law_a", "_law_b"]) (ps := ["_law_a", "_law_b"]) D b (C8.fnScope_by (by decide +kernel)) rfl rfl fun cdv A outer s H E hr => by
    have hu : (A.deeper (envOfC "_law_gcd" (C8.fnScope (topS 59)) s.heap.objs.size f cdv)).units + 65 < cLine := by have := hr.un; omega
    have hu64 : (A.deeper (envOfC "_law_gcd" (C8.fnScope (topS 59)) s.heap.objs.size f cdv)).units + 64 < cLine := by omega
    have hu1 : (A.deeper (envOfC "_law_gcd" (C8.fnScope (topS 59)) s.heap.objs.size f cdv)).units + 1 < cLine := by omega
    exact (pms_cons (pms_while [] PassesOwn.never (pmt_cmp op_gt cmp_int (pm_var 1) pm_int (by rfl))
 (pms_cons (pms_par 0 1 rfl nd (pma_cons (pm_var 1) (pma_cons (pm_mod (pm_callTy call_int1 calls_int (pma_cons (pm_var 0) pma_nil) g.b_int) (pm_var 1)) pma_nil)))
 pms_nil))
 (pms_cons (pms_ret (pm_var 0))
 pms_nil))
theorem c_f_law_is_round (g : Top K mg) (c_f_law_draw : C8.Cal P w K mg base 1 "_law_draw" (spF K f_law_draw) []) (c_f_law_gcd : C8.Cal P w K mg base 1 "_law_gcd" (spF K f_law_gcd) []) (c_f_law_same : C8.Cal P w K mg base 13 "_law_same" (spF K (f_law_same 12)) []) (c_f_skipped_after : C8.Cal P w K mg base 18 "skipped_after" (spF K f_skipped_after) []) : C8.Cal P w K mg base 19 "_law_is_round" (spF K f_law_is_round) [] := by
  obtain ⟨f, fd, D, b⟩ := g.d_f_law_is_round
  have nd : (["_law_deck_here", "_law_floor_here", "_law_skips_here", "_law_one", "_law_i", "_law_j", "_law_many", "_law_plan_here", "_law_two"] : List Str).Nodup := by decide +kernel
  exact cal_fn (N := ["_law_deck_here", "_law_floor_here", "_law_skips_here", "_law_one", "_law_i", "_law_j", "_law_many", "_law_plan_here", "_law_two"]) (ps := ["_law_deck_here", "_law_floor_here", "_law_skips_here", "_law_one"]) D b (C8.fnScope_by (by decide +kernel)) rfl rfl fun cdv A outer s H E hr => by
    have hu : (A.deeper (envOfC "_law_is_round" (C8.fnScope (topS 73)) s.heap.objs.size f cdv)).units + 65 < cLine := by have := hr.un; omega
    have hu64 : (A.deeper (envOfC "_law_is_round" (C8.fnScope (topS 73)) s.heap.objs.size f cdv)).units + 64 < cLine := by omega
    have hu1 : (A.deeper (envOfC "_law_is_round" (C8.fnScope (topS 73)) s.heap.objs.size f cdv)).units + 1 < cLine := by omega
    exact (pms_cons (pms_if (pmt_cmp (op_eqD hu64) cmp_eq (pm_var 2) (pm_tup pma_nil) (by rfl))
 (pms_cons (pms_ret pm_bl)
 pms_nil)
 pms_nil)
 (pms_cons (pms_par 4 5 rfl nd (pma_cons (pm_call c_f_law_draw hr (by decide) (pma_cons (pm_var 0) (pma_cons (pm_callB call_len calls_len (pma_cons (pm_var 2) pma_nil) g.b_len) pma_nil))) (pma_cons (pm_call c_f_law_draw hr (by decide) (pma_cons (pm_var 0) (pma_cons (pm_callB call_len calls_len (pma_cons (pm_var 2) pma_nil) g.b_len) pma_nil))) pma_nil)))
 (pms_cons (pms_set 6 nd (pm_idx hu1 (pm_idx hu1 (pm_var 1) pm_int) (pm_idx hu1 (pm_idx hu1 (pm_var 2) (pm_var 4)) pm_int)))
 (pms_cons (pms_set 7 nd (pm_tup (pma_cons (pm_tup (pma_cons pm_str (pma_cons (pm_div (pm_var 6) (pm_call c_f_law_gcd hr (by decide) (pma_cons (pm_var 6) (pma_cons (pm_idx hu1 (pm_idx hu1 (pm_var 2) (pm_var 4)) pm_int) pma_nil)))) (pma_cons (pm_tup (pma_cons (pm_tup (pma_cons pm_str (pma_cons (pm_var 4) pma_nil))) pma_nil)) pma_nil)))) pma_nil)))
 (pms_cons (pms_if (pmt_not (pmt_val (pm_call c_f_law_same hr (by decide) (pma_cons (pm_call c_f_skipped_after hr (by decide) (pma_cons (pm_var 1) (pma_cons (pm_var 2) (pma_cons (pm_var 3) (pma_cons (pm_var 7) pma_nil))))) (pma_cons (pm_var 3) pma_nil)))))
 (pms_cons (pms_ret pm_bl)
 pms_nil)
 pms_nil)
 (pms_cons (pms_set 8 nd (pm_call c_f_skipped_after hr (by decide) (pma_cons (pm_var 1) (pma_cons (pm_var 2) (pma_cons (pm_var 3) (pma_cons (pm_tup (pma_cons (pm_tup (pma_cons pm_str (pma_cons (pm_var 4) pma_nil))) (pma_cons (pm_tup (pma_cons pm_str (pma_cons (pm_var 5) pma_nil))) pma_nil))) pma_nil))))))
 (pms_cons (pms_ret (pm_call c_f_law_same hr (by decide) (pma_cons (pm_call c_f_skipped_after hr (by decide) (pma_cons (pm_var 1) (pma_cons (pm_var 2) (pma_cons (pm_var 3) (pma_cons (pm_tup (pma_cons (pm_tup (pma_cons pm_str (pma_cons (pm_var 5) pma_nil))) (pma_cons (pm_tup (pma_cons pm_str (pma_cons (pm_var 4) pma_nil))) pma_nil))) pma_nil))))) (pma_cons (pm_var 8) pma_nil))))
 pms_nil)))))))
theorem c_f_law_table (g : Top K mg) (c_f_law_places : C8.Cal P w K mg base 1 "_law_places" (spF K f_law_places) []) : C8.Cal P w K mg base 2 "_law_table" (spF K f_law_table) [] := by
  obtain ⟨f, fd, D, b⟩ := g.d_f_law_table
  have nd : (["_law_floor_here", "_law_places_here", "_law_seats", "_law_behind", "_law_mates", "_law_numbers", "_law_number", "_law_touch", "_law_x", "_law_y", "_law_s", "_law_place", "_law_u", "_law_i"] : List Str).Nodup := by decide +kernel
  exact cal_fn (N := ["_law_floor_here", "_law_places_here", "_law_seats", "_law_behind", "_law_mates", "_law_numbers", "_law_number", "_law_touch", "_law_x", "_law_y", "_law_s", "_law_place", "_law_u", "_law_i"]) (ps := ["_law_floor_here"]) D b (C8.fnScope_by (by decide +kernel)) rfl rfl fun cdv A outer s H E hr => by
    have hu : (A.deeper (envOfC "_law_table" (C8.fnScope (topS 61)) s.heap.objs.size f cdv)).units + 65 < cLine := by have := hr.un; omega
    have hu64 : (A.deeper (envOfC "_law_table" (C8.fnScope (topS 61)) s.heap.objs.size f cdv)).units + 64 < cLine := by omega
    have hu1 : (A.deeper (envOfC "_law_table" (C8.fnScope (topS 61)) s.heap.objs.size f cdv)).units + 1 < cLine := by omega
    exact (pms_cons (pms_set 1 nd (pm_call c_f_law_places hr (by decide) (pma_cons (pm_idx hu1 (pm_var 0) pm_int) pma_nil)))
 (pms_cons (pms_set 2 nd (pm_callTy (call_dictTt rfl hu) (calls_dictT false) (pma_cons (pm_lc false [("_law_s", 10), ("_law_place", 11)] rfl nd (blkOk_by (by kernel_rfl)) (pmi_enum (pm_var 1) g.b_enumerate) (fun _ _ _ _ _ => (pmg_tup rfl (pmgs_cons (pmg_name (vs := [10, 11]) 10 nd) (pmgs_cons (pmg_name (vs := [10, 11]) 11 nd) pmgs_nil)))) (fun _ _ _ _ _ => pmts_nil) (fun _ _ _ _ _ => (pm_tup (pma_cons (pm_var 11) (pma_cons (pm_var 10) pma_nil))))) pma_nil) g.b_dict))
 (pms_cons (pms_setLc false 3 [("_law_u", 12), ("_law_i", 13)] rfl nd (blkOk_by (by kernel_rfl)) (pmi_seq (pm_var 1)) (fun _ _ _ _ _ => (pmg_tup rfl (pmgs_cons (pmg_name (vs := [12, 13]) 12 nd) (pmgs_cons (pmg_name (vs := [12, 13]) 13 nd) pmgs_nil)))) (fun _ _ _ _ _ => pmts_nil) (fun _ _ _ _ _ => (pm_idx hu1 (pm_var 2) (pm_tup (pma_cons (pm_var 12) (pma_cons (pm_ifExp (pmt_cmp op_lt cmp_int (pm_add false (pm_var 13) pm_int) (pm_idx hu1 (pm_idx hu1 (pm_var 0) pm_int) (pm_var 12)) (by rfl)) (pm_add false (pm_var 13) pm_int) pm_int) pma_nil))))))
 (pms_cons (pms_par 4 5 rfl nd (pma_cons (pm_mul true (pm_lst false (pma_cons (pm_neg pm_int) pma_nil)) (pm_callB call_len calls_len (pma_cons (pm_var 1) pma_nil) g.b_len)) (pma_cons (pm_mul true (pm_lst false (pma_cons (pm_neg pm_int) pma_nil)) (pm_callB call_len calls_len (pma_cons (pm_var 1) pma_nil) g.b_len)) pma_nil)))
 (pms_cons (pms_for [6, 7, 8, 9] PassesOwn.never rfl (pmi_enum (pm_idx hu1 (pm_var 0) pm_int) g.b_enumerate) (pmg_tup rfl (pmgs_cons (pmg_name (vs := [6, 7]) 6 nd) (pmgs_cons (pmg_name (vs := [6, 7]) 7 nd) pmgs_nil)))
 (pms_cons (pms_par 8 9 rfl nd (pma_cons (pm_idx hu1 (pm_var 2) (pm_idx hu1 (pm_var 7) pm_int)) (pma_cons (pm_idx hu1 (pm_var 2) (pm_idx hu1 (pm_var 7) pm_int)) pma_nil)))
 (pms_cons (pms_asg (vs := []) (pm_tup (pma_cons (pm_var 9) (pma_cons (pm_var 8) (pma_cons (pm_var 6) (pma_cons (pm_var 6) pma_nil))))) (pmg_tup rfl (pmgs_cons (pmg_sub hu1 (pm_var 4) (pm_var 8)) (pmgs_cons (pmg_sub hu1 (pm_var 4) (pm_var 9)) (pmgs_cons (pmg_sub hu1 (pm_var 5) (pm_var 8)) (pmgs_cons (pmg_sub hu1 (pm_var 5) (pm_var 9)) pmgs_nil))))))
 pms_nil)))
 (pms_cons (pms_ret (pm_disp false hu (ppm_cons pm_str (pm_var 1) (ppm_cons pm_str (pm_var 2) (ppm_cons pm_str (pm_var 3) (ppm_cons pm_str (pm_frz 4) (ppm_cons pm_str (pm_frz 5) (ppm_cons pm_str (pm_var 0) ppm_nil))))))))
 pms_nil))))))
theorem c_f_law_skips (g : Top K mg) (c_f_law_draw : C8.Cal P w K mg base 1 "_law_draw" (spF K f_law_draw) []) (c_f_law_pick : C8.Cal P w K mg base 2 "_law_pick" (spF K f_law_pick) []) : C8.Cal P w K mg base 3 "_law_skips" (spF K f_law_skips) [] := by
  obtain ⟨f, fd, D, b⟩ := g.d_f_law_skips
  have nd : (["_law_deck_here", "_law_rings", "_law_most", "_law_found", "_law_go", "_law_u", "_law_r"] : List Str).Nodup := by decide +kernel
  exact cal_fn (N := ["_law_deck_here", "_law_rings", "_law_most", "_law_found", "_law_go", "_law_u", "_law_r"]) (ps := ["_law_deck_here", "_law_rings", "_law_most"]) D b (C8.fnScope_by (by decide +kernel)) rfl rfl fun cdv A outer s H E hr => by
    have hu : (A.deeper (envOfC "_law_skips" (C8.fnScope (topS 72)) s.heap.objs.size f cdv)).units + 65 < cLine := by have := hr.un; omega
    have hu64 : (A.deeper (envOfC "_law_skips" (C8.fnScope (topS 72)) s.heap.objs.size f cdv)).units + 64 < cLine := by omega
    have hu1 : (A.deeper (envOfC "_law_skips" (C8.fnScope (topS 72)) s.heap.objs.size f cdv)).units + 1 < cLine := by omega
    exact (pms_cons (pms_set 3 nd (pm_lst true pma_nil))
 (pms_cons (pms_for [4, 5, 6] PassesOwn.never rfl (pmi_rng1 (pma_cons (pm_call c_f_law_draw hr (by decide) (pma_cons (pm_var 0) (pma_cons (pm_add false (pm_var 2) pm_int) pma_nil))) pma_nil) g.b_range) (pmg_name (vs := [4]) 4 nd)
 (pms_cons (pms_set 5 nd (pm_call c_f_law_draw hr (by decide) (pma_cons (pm_var 0) (pma_cons (pm_callB call_len calls_len (pma_cons (pm_var 1) pma_nil) g.b_len) pma_nil))))
 (pms_cons (pms_set 6 nd (pm_call c_f_law_pick hr (by decide) (pma_cons (pm_var 0) (pma_cons (pm_lst false (pma_cons pm_int (pma_cons pm_int (pma_cons pm_int (pma_cons (pm_idx hu1 (pm_var 1) (pm_var 5)) (pma_cons (pm_mul false pm_int (pm_idx hu1 (pm_var 1) (pm_var 5))) (pma_cons (pm_add false pm_int (pm_call c_f_law_draw hr (by decide) (pma_cons (pm_var 0) (pma_cons pm_int pma_nil)))) (pma_cons (pm_callB (cr_max2D rfl hu) (calls_two true) (pma_cons pm_int (pma_cons (pm_div (pm_idx hu1 (pm_var 1) (pm_var 5)) pm_int) pma_nil)) g.b_max) (pma_cons pm_int pma_nil))))))))) pma_nil))))
 (pms_cons (pms_expr (pm_mtL slot_append ty_append mt_append mts_append (pm_var 3) (pma_cons (pm_tup (pma_cons (pm_var 5) (pma_cons (pm_var 6) pma_nil))) pma_nil)))
 pms_nil))))
 (pms_cons (pms_ret (pm_callTy call_tuple_of calls_tuple (pma_cons (pm_sortSetT false rfl hu (pm_var 3) g.b_sorted g.b_set) pma_nil) g.b_tuple))
 pms_nil)))
theorem c_f_law_then (g : Top K mg) : C8.Cal P w K mg base 1 "_law_then" (spF K f_law_then) [] := by
  obtain ⟨f, fd, D, b⟩ := g.d_f_law_then
  have nd : (["_law_one", "_law_other", "_law_s"] : List Str).Nodup := by decide +kernel
  exact cal_fn (N := ["_law_one", "_law_other", "_law_s"]) (ps := ["_law_one", "_law_other"]) D b (C8.fnScope_by (by decide +kernel)) rfl rfl fun cdv A outer s H E hr => by
    have hu : (A.deeper (envOfC "_law_then" (C8.fnScope (topS 65)) s.heap.objs.size f cdv)).units + 65 < cLine := by have := hr.un; omega
    have hu64 : (A.deeper (envOfC "_law_then" (C8.fnScope (topS 65)) s.heap.objs.size f cdv)).units + 64 < cLine := by omega
    have hu1 : (A.deeper (envOfC "_law_then" (C8.fnScope (topS 65)) s.heap.objs.size f cdv)).units + 1 < cLine := by omega
    exact (pms_cons (pms_ret (pm_callTy call_tuple_of calls_tuple (pma_cons (pm_lc false [("_law_s", 2)] rfl nd (blkOk_by (by kernel_rfl)) (pmi_seq (pm_var 0)) (fun _ _ _ _ _ => (pmg_name (vs := [2]) 2 nd)) (fun _ _ _ _ _ => pmts_nil) (fun _ _ _ _ _ => (pm_idx hu1 (pm_var 1) (pm_var 2)))) pma_nil) g.b_tuple))
 pms_nil)
theorem c_f_law_beat (g : Top K mg) : C8.Cal P w K mg base 1 "_law_beat" (spF K f_law_beat) [] := by
  obtain ⟨f, fd, D, b⟩ := g.d_f_law_beat
  have nd : (["_law_table_here", "_law_call_here", "_law_s"] : List Str).Nodup := by decide +kernel
  exact cal_fn (N := ["_law_table_here", "_law_call_here", "_law_s"]) (ps := ["_law_table_here", "_law_call_here"]) D b (C8.fnScope_by (by decide +kernel)) rfl rfl fun cdv A outer s H E hr => by
    have hu : (A.deeper (envOfC "_law_beat" (C8.fnScope (topS 64)) s.heap.objs.size f cdv)).units + 65 < cLine := by have := hr.un; omega
    have hu64 : (A.deeper (envOfC "_law_beat" (C8.fnScope (topS 64)) s.heap.objs.size f cdv)).units + 64 < cLine := by omega
    have hu1 : (A.deeper (envOfC "_law_beat" (C8.fnScope (topS 64)) s.heap.objs.size f cdv)).units + 1 < cLine := by omega
    exact (pms_cons (pms_ret (pm_callTy call_tuple_of calls_tuple (pma_cons (pm_lc false [("_law_s", 2)] rfl nd (blkOk_by (by kernel_rfl)) (pmi_seq (pm_idx hu1 (pm_var 0) pm_str)) (fun _ _ _ _ _ => (pmg_name (vs := [2]) 2 nd)) (fun _ _ _ _ _ => pmts_nil) (fun _ _ _ _ _ => (pm_ifExp (pmt_cmp (op_inAll hu) cmp_in (pm_idx hu1 (pm_idx hu1 (pm_var 0) pm_str) (pm_var 2)) (pm_var 1) (by rfl)) (pm_idx hu1 (pm_idx hu1 (pm_var 0) pm_str) (pm_var 2)) (pm_var 2)))) pma_nil) g.b_tuple))
 pms_nil)
theorem c_f_law_power (g : Top K mg) (c_f_law_then : C8.Cal P w K mg base 1 "_law_then" (spF K f_law_then) []) : C8.Cal P w K mg base 2 "_law_power" (spF K f_law_power) [] := by
  obtain ⟨f, fd, D, b⟩ := g.d_f_law_power
  have nd : (["_law_one", "_law_k", "_law_found"] : List Str).Nodup := by decide +kernel
  exact cal_fn (N := ["_law_one", "_law_k", "_law_found"]) (ps := ["_law_one", "_law_k"]) D b (C8.fnScope_by (by decide +kernel)) rfl rfl fun cdv A outer s H E hr => by
    have hu : (A.deeper (envOfC "_law_power" (C8.fnScope (topS 66)) s.heap.objs.size f cdv)).units + 65 < cLine := by have := hr.un; omega
    have hu64 : (A.deeper (envOfC "_law_power" (C8.fnScope (topS 66)) s.heap.objs.size f cdv)).units + 64 < cLine := by omega
    have hu1 : (A.deeper (envOfC "_law_power" (C8.fnScope (topS 66)) s.heap.objs.size f cdv)).units + 1 < cLine := by omega
    exact (pms_cons (pms_set 2 nd (pm_tupRg rfl (pm_callB call_len calls_len (pma_cons (pm_var 0) pma_nil) g.b_len) g.b_tuple g.b_range))
 (pms_cons (pms_while [] PassesOwn.never (pmt_cmp op_gt cmp_int (pm_var 1) pm_int (by rfl))
 (pms_cons (pms_if (pmt_cmp (op_eqD hu64) cmp_eq (pm_band (pm_var 1) pm_int) pm_int (by rfl))
 (pms_cons (pms_set 2 nd (pm_call c_f_law_then hr (by decide) (pma_cons (pm_var 2) (pma_cons (pm_var 0) pma_nil))))
 pms_nil)
 pms_nil)
 (pms_cons (pms_par 0 1 rfl nd (pma_cons (pm_call c_f_law_then hr (by decide) (pma_cons (pm_var 0) (pma_cons (pm_var 0) pma_nil))) (pma_cons (pm_div (pm_var 1) pm_int) pma_nil)))
 pms_nil)))
 (pms_cons (pms_ret (pm_var 2))
 pms_nil)))
theorem c_f_law_skip (g : Top K mg) : C8.Cal P w K mg base 1 "_law_skip" (spF K f_law_skip) [] := by
  obtain ⟨f, fd, D, b⟩ := g.d_f_law_skip
  have nd : (["_law_table_here", "_law_ring", "_law_times", "_law_many", "_law_found", "_law_u", "_law_i"] : List Str).Nodup := by decide +kernel
  exact cal_fn (N := ["_law_table_here", "_law_ring", "_law_times", "_law_many", "_law_found", "_law_u", "_law_i"]) (ps := ["_law_table_here", "_law_ring", "_law_times"]) D b (C8.fnScope_by (by decide +kernel)) rfl rfl fun cdv A outer s H E hr => by
    have hu : (A.deeper (envOfC "_law_skip" (C8.fnScope (topS 68)) s.heap.objs.size f cdv)).units + 65 < cLine := by have := hr.un; omega
    have hu64 : (A.deeper (envOfC "_law_skip" (C8.fnScope (topS 68)) s.heap.objs.size f cdv)).units + 64 < cLine := by omega
    have hu1 : (A.deeper (envOfC "_law_skip" (C8.fnScope (topS 68)) s.heap.objs.size f cdv)).units + 1 < cLine := by omega
    exact (pms_cons (pms_par 3 4 rfl nd (pma_cons (pm_idx hu1 (pm_idx hu1 (pm_idx hu1 (pm_var 0) pm_str) pm_int) (pm_var 1)) (pma_cons (pm_lst true pma_nil) pma_nil)))
 (pms_cons (pms_for [5, 6] PassesOwn.never rfl (pmi_seq (pm_idx hu1 (pm_var 0) pm_str)) (pmg_tup rfl (pmgs_cons (pmg_name (vs := [5, 6]) 5 nd) (pmgs_cons (pmg_name (vs := [5, 6]) 6 nd) pmgs_nil)))
 (pms_cons (pms_expr (pm_mtL slot_append ty_append mt_append mts_append (pm_var 4) (pma_cons (pm_idx hu1 (pm_idx hu1 (pm_var 0) pm_str) (pm_tup (pma_cons (pm_var 5) (pma_cons (pm_ifExp (pmt_cmp (op_eqD hu64) cmp_eq (pm_var 5) (pm_var 1) (by rfl)) (pm_mod (pm_callTy call_int1 calls_int (pma_cons (pm_add false (pm_var 6) (pm_var 2)) pma_nil) g.b_int) (pm_var 3)) (pm_var 6)) pma_nil)))) pma_nil)))
 pms_nil))
 (pms_cons (pms_ret (pm_callTy call_tuple_of calls_tuple (pma_cons (pm_var 4) pma_nil) g.b_tuple))
 pms_nil)))
theorem c_f_law_map (g : Top K mg) (c_f_law_beat : C8.Cal P w K mg base 1 "_law_beat" (spF K f_law_beat) []) (c_f_law_power : C8.Cal P w K mg base 2 "_law_power" (spF K f_law_power) []) (c_f_law_skip : C8.Cal P w K mg base 1 "_law_skip" (spF K f_law_skip) []) (c_f_law_then : C8.Cal P w K mg base 1 "_law_then" (spF K f_law_then) []) : ∀ n : Nat, C8.Cal P w K mg base (2 + n + 1) "_law_map" (spF K (f_law_map n)) []
  | 0 => by
    obtain ⟨f, fd, D, b⟩ := g.d_f_law_map
    exact cal_stuck D b
  | n + 1 => by
    have c_f_law_map := fun (_ : Nat) => c_f_law_map g c_f_law_beat c_f_law_power c_f_law_skip c_f_law_then n
    obtain ⟨f, fd, D, b⟩ := g.d_f_law_map
    have nd : (["_law_table_here", "_law_skips_here", "_law_plan_here", "_law_found", "_law_step"] : List Str).Nodup := by decide +kernel
    show C8.Cal P w K mg base ((2 + n + 1) + 1) "_law_map" _ []
    exact cal_fn (N := ["_law_table_here", "_law_skips_here", "_law_plan_here", "_law_found", "_law_step"]) (ps := ["_law_table_here", "_law_skips_here", "_law_plan_here"]) D b (C8.fnScope_by (by decide +kernel)) rfl rfl fun cdv A outer s H E hr => by
      have hu : (A.deeper (envOfC "_law_map" (C8.fnScope (topS 69)) s.heap.objs.size f cdv)).units + 65 < cLine := by have := hr.un; omega
      have hu64 : (A.deeper (envOfC "_law_map" (C8.fnScope (topS 69)) s.heap.objs.size f cdv)).units + 64 < cLine := by omega
      have hu1 : (A.deeper (envOfC "_law_map" (C8.fnScope (topS 69)) s.heap.objs.size f cdv)).units + 1 < cLine := by omega
      exact (pms_cons (pms_set 3 nd (pm_tupRg rfl (pm_callB call_len calls_len (pma_cons (pm_idx hu1 (pm_var 0) pm_str) pma_nil) g.b_len) g.b_tuple g.b_range))
   (pms_cons (pms_for [4] PassesOwn.never rfl (pmi_seq (pm_var 2)) (pmg_name (vs := [4]) 4 nd)
   (pms_cons (pms_if (pmt_cmp (op_eqD hu64) cmp_eq (pm_idx hu1 (pm_var 4) pm_int) pm_str (by rfl))
   (pms_cons (pms_set 3 nd (pm_call c_f_law_then hr (by omega) (pma_cons (pm_var 3) (pma_cons (pm_call c_f_law_beat hr (by omega) (pma_cons (pm_var 0) (pma_cons (pm_idx hu1 (pm_var 4) pm_int) pma_nil))) pma_nil))))
   pms_nil)
   (pms_cons (pms_if (pmt_cmp (op_eqD hu64) cmp_eq (pm_idx hu1 (pm_var 4) pm_int) pm_str (by rfl))
   (pms_cons (pms_set 3 nd (pm_call c_f_law_then hr (by omega) (pma_cons (pm_var 3) (pma_cons (pm_call c_f_law_power hr (by omega) (pma_cons (pm_call (c_f_law_map n) hr (by omega) (pma_cons (pm_var 0) (pma_cons (pm_var 1) (pma_cons (pm_idx hu1 (pm_var 4) pm_int) pma_nil)))) (pma_cons (pm_idx hu1 (pm_var 4) pm_int) pma_nil))) pma_nil))))
   pms_nil)
   (pms_cons (pms_set 3 nd (pm_call c_f_law_then hr (by omega) (pma_cons (pm_var 3) (pma_cons (pm_call c_f_law_skip hr (by omega) (pma_cons (pm_var 0) (pma_cons (pm_idx hu1 (pm_idx hu1 (pm_var 1) (pm_idx hu1 (pm_var 4) pm_int)) pm_int) (pma_cons (pm_idx hu1 (pm_idx hu1 (pm_var 1) (pm_idx hu1 (pm_var 4) pm_int)) pm_int) pma_nil)))) pma_nil))))
   pms_nil))
   pms_nil))
   pms_nil))
   (pms_cons (pms_ret (pm_var 3))
   pms_nil)))
theorem c_f_is_step (g : Top K mg) (c_f_is_call : C8.Cal P w K mg base 3 "is_call" (spF K f_is_call) []) (c_f_is_from : C8.Cal P w K mg base 2 "is_from" (spF K f_is_from) []) : C8.Cal P w K mg base 4 "is_step" (spF K f_is_step) [] := by
  obtain ⟨f, fd, D, b⟩ := g.d_f_is_step
  have nd : (["floor", "thing"] : List Str).Nodup := by decide +kernel
  exact cal_fn (N := ["floor", "thing"]) (ps := ["floor", "thing"]) D b (C8.fnScope_by (by decide +kernel)) rfl rfl fun cdv A outer s H E hr => by
    have hu : (A.deeper (envOfC "is_step" (C8.fnScope (topS 29)) s.heap.objs.size f cdv)).units + 65 < cLine := by have := hr.un; omega
    have hu64 : (A.deeper (envOfC "is_step" (C8.fnScope (topS 29)) s.heap.objs.size f cdv)).units + 64 < cLine := by omega
    have hu1 : (A.deeper (envOfC "is_step" (C8.fnScope (topS 29)) s.heap.objs.size f cdv)).units + 1 < cLine := by omega
    exact (pms_cons (pms_if (PMW.tt (pmw_or (pmt_not (pmt_val (pm_isa "tuple" (by decide) (pm_var 1) g.b_isinstance g.b_tuple))) (pmw_or (pmt_cmp (op_eqD hu64) cmp_eq (pm_var 1) (pm_tup pma_nil) (by rfl)) (pmw_or1 (pmt_not (pmt_val (pm_isa "str" (by decide) (pm_idx hu1 (pm_var 1) pm_int) g.b_isinstance g.b_str)))))))
 (pms_cons (pms_ret pm_bl)
 pms_nil)
 pms_nil)
 (pms_cons (pms_if (pmt_cmp (op_eqD hu64) cmp_eq (pm_idx hu1 (pm_var 1) pm_int) (pm_gstr g.k_BEAT.choose_spec) (by rfl))
 (pms_cons (pms_ret (pm_and (pm_cmp (op_eqD hu64) cmp_eq (pm_callB call_len calls_len (pma_cons (pm_var 1) pma_nil) g.b_len) pm_int (by rfl)) (pm_one (pm_call c_f_is_call hr (by decide) (pma_cons (pm_var 0) (pma_cons (pm_idx hu1 (pm_var 1) pm_int) pma_nil))))))
 pms_nil)
 pms_nil)
 (pms_cons (pms_ret (pm_and (pm_cmp (op_eqD hu64) cmp_eq (pm_idx hu1 (pm_var 1) pm_int) (pm_gstr g.k_TIMES.choose_spec) (by rfl)) (pm_and (pm_cmp (op_eqD hu64) cmp_eq (pm_callB call_len calls_len (pma_cons (pm_var 1) pma_nil) g.b_len) pm_int (by rfl)) (pm_one (pm_call c_f_is_from hr (by decide) (pma_cons (pm_idx hu1 (pm_var 1) pm_int) (pma_cons pm_int pma_nil)))))))
 pms_nil)))
theorem c_f_is_plan_value (g : Top K mg) (c_f_is_step : C8.Cal P w K mg base 4 "is_step" (spF K f_is_step) []) : C8.Cal P w K mg base 5 "is_plan_value" (spF K f_is_plan_value) [] := by
  obtain ⟨f, fd, D, b⟩ := g.d_f_is_plan_value
  have nd : (["floor", "thing", "waiting", "plan", "step"] : List Str).Nodup := by decide +kernel
  exact cal_fn (N := ["floor", "thing", "waiting", "plan", "step"]) (ps := ["floor", "thing"]) D b (C8.fnScope_by (by decide +kernel)) rfl rfl fun cdv A outer s H E hr => by
    have hu : (A.deeper (envOfC "is_plan_value" (C8.fnScope (topS 30)) s.heap.objs.size f cdv)).units + 65 < cLine := by have := hr.un; omega
    have hu64 : (A.deeper (envOfC "is_plan_value" (C8.fnScope (topS 30)) s.heap.objs.size f cdv)).units + 64 < cLine := by omega
    have hu1 : (A.deeper (envOfC "is_plan_value" (C8.fnScope (topS 30)) s.heap.objs.size f cdv)).units + 1 < cLine := by omega
    exact (pms_cons (pms_set 2 nd (pm_lst true (pma_cons (pm_var 1) pma_nil)))
 (pms_cons (pms_while [3] PassesOwn.never (pmt_cmp (op_neD hu64) cmp_ne (pm_var 2) (pm_lst false pma_nil) (by rfl))
 (pms_cons (pms_set 3 nd (pm_mtL0 slot_pop ty_pop mt_pop mts_pop (pm_var 2)))
 (pms_cons (pms_if (PMW.tt (pmw_or (pmt_not (pmt_val (pm_isa "tuple" (by decide) (pm_var 3) g.b_isinstance g.b_tuple))) (pmw_or1 (pmt_not (pmt_val (pm_callB (cr_all rfl) calls_all (pma_cons (pm_lc false [("step", 4)] rfl nd (blkOk_by (by kernel_rfl)) (pmi_seq (pm_var 3)) (fun _ _ _ _ _ => (pmg_name (vs := [4]) 4 nd)) (fun _ _ _ _ _ => pmts_nil) (fun _ _ _ _ _ => (pm_call c_f_is_step hr (by decide) (pma_cons (pm_var 0) (pma_cons (pm_var 4) pma_nil))))) pma_nil) g.b_all))))))
 (pms_cons (pms_ret pm_bl)
 pms_nil)
 pms_nil)
 (pms_cons (pms_expr (pm_mtL slot_extend ty_extend mt_extend mts_extend (pm_var 2) (pma_cons (pm_lc false [("step", 4)] rfl nd (blkOk_by (by kernel_rfl)) (pmi_seq (pm_var 3)) (fun _ _ _ _ _ => (pmg_name (vs := [4]) 4 nd)) (fun _ _ _ _ _ => (pmts_one (pmt_cmp (op_eqD hu64) cmp_eq (pm_idx hu1 (pm_var 4) pm_int) (pm_gstr g.k_TIMES.choose_spec) (by rfl)))) (fun _ _ _ _ _ => (pm_idx hu1 (pm_var 4) pm_int))) pma_nil)))
 pms_nil))))
 (pms_cons (pms_ret pm_bl)
 pms_nil)))
theorem c_f_need_plan (g : Top K mg) (c_f_is_plan_value : C8.Cal P w K mg base 5 "is_plan_value" (spF K f_is_plan_value) []) (c_f_need_floor : C8.Cal P w K mg base 7 "need_floor" (spF K f_need_floor) []) : C8.Cal P w K mg base 8 "need_plan" (spF K f_need_plan) [] := by
  obtain ⟨f, fd, D, b⟩ := g.d_f_need_plan
  have nd : (["floor", "plan"] : List Str).Nodup := by decide +kernel
  exact cal_fn (N := ["floor", "plan"]) (ps := ["floor", "plan"]) D b (C8.fnScope_by (by decide +kernel)) rfl rfl fun cdv A outer s H E hr => by
    have hu : (A.deeper (envOfC "need_plan" (C8.fnScope (topS 31)) s.heap.objs.size f cdv)).units + 65 < cLine := by have := hr.un; omega
    have hu64 : (A.deeper (envOfC "need_plan" (C8.fnScope (topS 31)) s.heap.objs.size f cdv)).units + 64 < cLine := by omega
    have hu1 : (A.deeper (envOfC "need_plan" (C8.fnScope (topS 31)) s.heap.objs.size f cdv)).units + 1 < cLine := by omega
    exact (pms_cons (pms_expr (pm_call c_f_need_floor hr (by decide) (pma_cons (pm_var 0) pma_nil)))
 (pms_cons (pms_if (pmt_not (pmt_val (pm_call c_f_is_plan_value hr (by decide) (pma_cons (pm_var 0) (pma_cons (pm_var 1) pma_nil)))))
 (pms_cons pms_never
 pms_nil)
 pms_nil)
 pms_nil))
theorem cg_f_map_of (g : Top K mg) (c_f_followed : C8.Cal P w K mg base 1 "followed" (spF K f_followed) []) (k : Nat) (hk0 : 3 ≤ k) {S : Fn} (cS : C8.Cal P w K mg base k "step_map" (spF K S) []) : C8.Cal P w K mg base (k + 1) "map_of" (spF K (g_f_map_of S)) [] := by
  obtain ⟨f, fd, D, b⟩ := g.d_f_map_of
  have nd : (["floor", "plan", "found", "step"] : List Str).Nodup := by decide +kernel
  exact cal_fn (N := ["floor", "plan", "found", "step"]) (ps := ["floor", "plan"]) D b (C8.fnScope_by (by decide +kernel)) rfl rfl fun cdv A outer s H E hr => by
    have hu : (A.deeper (envOfC "map_of" (C8.fnScope (topS 36)) s.heap.objs.size f cdv)).units + 65 < cLine := by have := hr.un; omega
    have hu64 : (A.deeper (envOfC "map_of" (C8.fnScope (topS 36)) s.heap.objs.size f cdv)).units + 64 < cLine := by omega
    have hu1 : (A.deeper (envOfC "map_of" (C8.fnScope (topS 36)) s.heap.objs.size f cdv)).units + 1 < cLine := by omega
    exact (pms_cons (pms_set 2 nd (pm_listRg false rfl (pm_callB (cr_sumA rfl) calls_sumA (pma_cons (pm_idx hu1 (pm_var 0) pm_int) pma_nil) g.b_sum) g.b_list g.b_range))
 (pms_cons (pms_for [3] PassesOwn.never rfl (pmi_seq (pm_var 1)) (pmg_name (vs := [3]) 3 nd)
 (pms_cons (pms_set 2 nd (pm_call c_f_followed hr (by omega) (pma_cons (pm_var 2) (pma_cons (pm_call cS hr (by omega) (pma_cons (pm_var 0) (pma_cons (pm_var 3) pma_nil))) pma_nil))))
 pms_nil))
 (pms_cons (pms_ret (pm_var 2))
 pms_nil)))
theorem c_f_step_map (g : Top K mg) (c_f_call_map : C8.Cal P w K mg base 3 "call_map" (spF K f_call_map) []) (c_f_followed : C8.Cal P w K mg base 1 "followed" (spF K f_followed) []) (c_f_map_power : C8.Cal P w K mg base 2 "map_power" (spF K f_map_power) []) : ∀ n : Nat, C8.Cal P w K mg base (3 + 2 * n + 1) "step_map" (spF K (f_step_map n)) []
  | 0 => by
    obtain ⟨f, fd, D, b⟩ := g.d_f_step_map
    exact cal_stuck D b
  | n + 1 => by
    have cA := c_f_step_map g c_f_call_map c_f_followed c_f_map_power n
    have cB := cg_f_map_of g c_f_followed (3 + 2 * n + 1) (by omega) cA
    obtain ⟨f, fd, D, b⟩ := g.d_f_step_map
    have nd : (["floor", "step"] : List Str).Nodup := by decide +kernel
    show C8.Cal P w K mg base ((3 + 2 * n + 2) + 1) "step_map" _ []
    exact cal_fn (N := ["floor", "step"]) (ps := ["floor", "step"]) D b (C8.fnScope_by (by decide +kernel)) rfl rfl fun cdv A outer s H E hr => by
      have hu : (A.deeper (envOfC "step_map" (C8.fnScope (topS 35)) s.heap.objs.size f cdv)).units + 65 < cLine := by have := hr.un; omega
      have hu64 : (A.deeper (envOfC "step_map" (C8.fnScope (topS 35)) s.heap.objs.size f cdv)).units + 64 < cLine := by omega
      have hu1 : (A.deeper (envOfC "step_map" (C8.fnScope (topS 35)) s.heap.objs.size f cdv)).units + 1 < cLine := by omega
      exact (pms_cons (pms_ret (pm_ifExp (pmt_cmp (op_eqD hu64) cmp_eq (pm_idx hu1 (pm_var 1) pm_int) (pm_gstr g.k_BEAT.choose_spec) (by rfl)) (pm_call c_f_call_map hr (by omega) (pma_cons (pm_var 0) (pma_cons (pm_idx hu1 (pm_var 1) pm_int) pma_nil))) (pm_call c_f_map_power hr (by omega) (pma_cons (pm_call cB hr (by omega) (pma_cons (pm_var 0) (pma_cons (pm_idx hu1 (pm_var 1) pm_int) pma_nil))) (pma_cons (pm_idx hu1 (pm_var 1) pm_int) pma_nil)))))
   pms_nil)
theorem c_f_map_of (g : Top K mg) (c_f_call_map : C8.Cal P w K mg base 3 "call_map" (spF K f_call_map) []) (c_f_followed : C8.Cal P w K mg base 1 "followed" (spF K f_followed) []) (c_f_map_power : C8.Cal P w K mg base 2 "map_power" (spF K f_map_power) []) : C8.Cal P w K mg base 17 "map_of" (spF K f_map_of) [] := cg_f_map_of g c_f_followed 16 (by decide) (c_f_step_map g c_f_call_map c_f_followed c_f_map_power 6)
theorem c_f_after (g : Top K mg) (c_f_arranged : C8.Cal P w K mg base 1 "arranged" (spF K f_arranged) []) (c_f_map_of : C8.Cal P w K mg base 17 "map_of" (spF K f_map_of) []) (c_f_need_arrangement : C8.Cal P w K mg base 8 "need_arrangement" (spF K f_need_arrangement) []) (c_f_need_plan : C8.Cal P w K mg base 8 "need_plan" (spF K f_need_plan) []) : C8.Cal P w K mg base 18 "after" (spF K f_after) [] := by
  obtain ⟨f, fd, D, b⟩ := g.d_f_after
  have nd : (["floor", "arrangement", "plan"] : List Str).Nodup := by decide +kernel
  exact cal_fn (N := ["floor", "arrangement", "plan"]) (ps := ["floor", "arrangement", "plan"]) D b (C8.fnScope_by (by decide +kernel)) rfl rfl fun cdv A outer s H E hr => by
    have hu : (A.deeper (envOfC "after" (C8.fnScope (topS 52)) s.heap.objs.size f cdv)).units + 65 < cLine := by have := hr.un; omega
    have hu64 : (A.deeper (envOfC "after" (C8.fnScope (topS 52)) s.heap.objs.size f cdv)).units + 64 < cLine := by omega
    have hu1 : (A.deeper (envOfC "after" (C8.fnScope (topS 52)) s.heap.objs.size f cdv)).units + 1 < cLine := by omega
    exact (pms_cons (pms_expr (pm_call c_f_need_arrangement hr (by decide) (pma_cons (pm_var 0) (pma_cons (pm_var 1) pma_nil))))
 (pms_cons (pms_expr (pm_call c_f_need_plan hr (by decide) (pma_cons (pm_var 0) (pma_cons (pm_var 2) pma_nil))))
 (pms_cons (pms_ret (pm_call c_f_arranged hr (by decide) (pma_cons (pm_var 1) (pma_cons (pm_call c_f_map_of hr (by decide) (pma_cons (pm_var 0) (pma_cons (pm_var 2) pma_nil))) pma_nil))))
 pms_nil)))
theorem ca_flaw (g : Top K mg) {f : Addr} {fd : FuncData} (D : C8.Def K mg "law" (topS 74) f fd) (c_f_law_deck : C8.Cal P w K mg base 1 "_law_deck" (spF K f_law_deck) []) (c_f_law_floor : C8.Cal P w K mg base 3 "_law_floor" (spF K f_law_floor) []) (c_f_law_is_round : C8.Cal P w K mg base 19 "_law_is_round" (spF K f_law_is_round) []) (c_f_law_led : C8.Cal P w K mg base 1 "_law_led" (spF K f_law_led) []) (c_f_law_map : C8.Cal P w K mg base 9 "_law_map" (spF K (f_law_map 6)) []) (c_f_law_order : C8.Cal P w K mg base 2 "_law_order" (spF K f_law_order) []) (c_f_law_pick : C8.Cal P w K mg base 2 "_law_pick" (spF K f_law_pick) []) (c_f_law_plan : C8.Cal P w K mg base 9 "_law_plan" (spF K (f_law_plan 6)) []) (c_f_law_power : C8.Cal P w K mg base 2 "_law_power" (spF K f_law_power) []) (c_f_law_same : C8.Cal P w K mg base 13 "_law_same" (spF K (f_law_same 12)) []) (c_f_law_skips : C8.Cal P w K mg base 3 "_law_skips" (spF K f_law_skips) []) (c_f_law_table : C8.Cal P w K mg base 2 "_law_table" (spF K f_law_table) []) (c_f_after : C8.Cal P w K mg base 18 "after" (spF K f_after) []) (c_f_skipped_after : C8.Cal P w K mg base 18 "skipped_after" (spF K f_skipped_after) []) (ck0_f_skipped_after : CalK P w K mg base 18 "skipped_after" ["plan", "arrangement", "skips", "floor"] [3, 2, 1, 0] (spF K f_skipped_after)) : CalA P w K mg base 20 "law" f fd ["_law_script"] (spF K f_law) := by
  have nd : (["_law_script", "_law_deck_here", "_law_floor_here", "_law_table_here", "_law_skips_here", "_law_one", "_law_first", "_law_second", "_law_due", "_law_later", "_law_k", "_law_plain", "_law_rings", "_law_plan_here", "_law_u"] : List Str).Nodup := by decide +kernel
  exact cal_fnA (N := ["_law_script", "_law_deck_here", "_law_floor_here", "_law_table_here", "_law_skips_here", "_law_one", "_law_first", "_law_second", "_law_due", "_law_later", "_law_k", "_law_plain", "_law_rings", "_law_plan_here", "_law_u"]) (ps := ["_law_script"]) D (C8.fnScope_by (by decide +kernel)) rfl rfl fun cdv A outer s H E hr => by
    have hu : (A.deeper (envOfC "law" (C8.fnScope (topS 74)) s.heap.objs.size f cdv)).units + 65 < cLine := by have := hr.un; omega
    have hu64 : (A.deeper (envOfC "law" (C8.fnScope (topS 74)) s.heap.objs.size f cdv)).units + 64 < cLine := by omega
    have hu1 : (A.deeper (envOfC "law" (C8.fnScope (topS 74)) s.heap.objs.size f cdv)).units + 1 < cLine := by omega
    exact (pms_cons (pms_set 1 nd (pm_call c_f_law_deck hr (by decide) (pma_cons (pm_var 0) (pma_cons pm_int pma_nil))))
 (pms_cons (pms_set 2 nd (pm_call c_f_law_floor hr (by decide) (pma_cons (pm_var 1) (pma_cons (pm_call c_f_law_pick hr (by decide) (pma_cons (pm_var 1) (pma_cons (pm_lst false (pma_cons pm_int (pma_cons pm_int (pma_cons pm_int (pma_cons pm_int pma_nil))))) pma_nil))) (pma_cons pm_int pma_nil)))))
 (pms_cons (pms_par 3 4 rfl nd (pma_cons (pm_call c_f_law_table hr (by decide) (pma_cons (pm_var 2) pma_nil)) (pma_cons (pm_call c_f_law_skips hr (by decide) (pma_cons (pm_var 1) (pma_cons (pm_idx hu1 (pm_var 2) pm_int) (pma_cons pm_int pma_nil)))) pma_nil)))
 (pms_cons (pms_set 5 nd (pm_call c_f_law_order hr (by decide) (pma_cons (pm_var 1) (pma_cons (pm_callB call_len calls_len (pma_cons (pm_idx hu1 (pm_var 3) pm_str) pma_nil) g.b_len) pma_nil))))
 (pms_cons (pms_par 6 7 rfl nd (pma_cons (pm_call c_f_law_plan hr (by decide) (pma_cons (pm_var 1) (pma_cons (pm_var 3) (pma_cons (pm_var 4) (pma_cons pm_int (pma_cons pm_int pma_nil)))))) (pma_cons (pm_call c_f_law_plan hr (by decide) (pma_cons (pm_var 1) (pma_cons (pm_var 3) (pma_cons (pm_var 4) (pma_cons pm_int (pma_cons pm_int pma_nil)))))) pma_nil)))
 (pms_cons (pms_set 8 nd (pm_call c_f_law_led hr (by decide) (pma_cons (pm_var 5) (pma_cons (pm_call c_f_law_map hr (by decide) (pma_cons (pm_var 3) (pma_cons (pm_var 4) (pma_cons (pm_var 6) pma_nil)))) pma_nil))))
 (pms_cons (pms_if (pmt_not (pmt_val (pm_call c_f_law_same hr (by decide) (pma_cons (pm_call c_f_skipped_after hr (by decide) (pma_cons (pm_var 2) (pma_cons (pm_var 4) (pma_cons (pm_var 5) (pma_cons (pm_var 6) pma_nil))))) (pma_cons (pm_var 8) pma_nil)))))
 (pms_cons (pms_ret pm_bl)
 pms_nil)
 pms_nil)
 (pms_cons (pms_set 9 nd (pm_call c_f_law_led hr (by decide) (pma_cons (pm_var 8) (pma_cons (pm_call c_f_law_map hr (by decide) (pma_cons (pm_var 3) (pma_cons (pm_var 4) (pma_cons (pm_var 7) pma_nil)))) pma_nil))))
 (pms_cons (pms_if (pmt_not (pmt_val (pm_call c_f_law_same hr (by decide) (pma_cons (pm_callKw ck0_f_skipped_after hr (by decide) (pmk_cons (pm_add false (pm_var 6) (pm_var 7)) (pmk_cons (pm_var 5) (pmk_cons (pm_var 4) (pmk_cons (pm_var 2) pmk_nil))))) (pma_cons (pm_var 9) pma_nil)))))
 (pms_cons (pms_ret pm_bl)
 pms_nil)
 pms_nil)
 (pms_cons (pms_if (pmt_not (pmt_val (pm_call c_f_law_same hr (by decide) (pma_cons (pm_call c_f_skipped_after hr (by decide) (pma_cons (pm_var 2) (pma_cons (pm_var 4) (pma_cons (pm_var 8) (pma_cons (pm_var 7) pma_nil))))) (pma_cons (pm_var 9) pma_nil)))))
 (pms_cons (pms_ret pm_bl)
 pms_nil)
 pms_nil)
 (pms_cons (pms_set 10 nd (pm_call c_f_law_pick hr (by decide) (pma_cons (pm_var 1) (pma_cons (pm_lst false (pma_cons pm_int (pma_cons pm_int (pma_cons pm_int (pma_cons (pm_pow pm_int pm_int) (pma_cons pm_int pma_nil)))))) pma_nil))))
 (pms_cons (pms_set 8 nd (pm_call c_f_law_led hr (by decide) (pma_cons (pm_var 5) (pma_cons (pm_call c_f_law_power hr (by decide) (pma_cons (pm_call c_f_law_map hr (by decide) (pma_cons (pm_var 3) (pma_cons (pm_var 4) (pma_cons (pm_var 6) pma_nil)))) (pma_cons (pm_var 10) pma_nil))) pma_nil))))
 (pms_cons (pms_if (pmt_not (pmt_val (pm_call c_f_law_same hr (by decide) (pma_cons (pm_call c_f_skipped_after hr (by decide) (pma_cons (pm_var 2) (pma_cons (pm_var 4) (pma_cons (pm_var 5) (pma_cons (pm_tup (pma_cons (pm_tup (pma_cons pm_str (pma_cons (pm_var 10) (pma_cons (pm_var 6) pma_nil)))) pma_nil)) pma_nil))))) (pma_cons (pm_var 8) pma_nil)))))
 (pms_cons (pms_ret pm_bl)
 pms_nil)
 pms_nil)
 (pms_cons (pms_set 11 nd (pm_call c_f_law_plan hr (by decide) (pma_cons (pm_var 1) (pma_cons (pm_var 3) (pma_cons (pm_tup pma_nil) (pma_cons pm_int (pma_cons pm_int pma_nil)))))))
 (pms_cons (pms_if (pmt_not (pmt_val (pm_call c_f_law_same hr (by decide) (pma_cons (pm_call c_f_skipped_after hr (by decide) (pma_cons (pm_var 2) (pma_cons (pm_var 4) (pma_cons (pm_var 5) (pma_cons (pm_var 11) pma_nil))))) (pma_cons (pm_call c_f_after hr (by decide) (pma_cons (pm_var 2) (pma_cons (pm_var 5) (pma_cons (pm_var 11) pma_nil)))) pma_nil)))))
 (pms_cons (pms_ret pm_bl)
 pms_nil)
 pms_nil)
 (pms_cons (pms_set 12 nd (pm_callTy call_tuple_of calls_tuple (pma_cons (pm_lc false [("_law_u", 14)] rfl nd (blkOk_by (by kernel_rfl)) (pmi_rng1 (pma_cons (pm_callB call_len calls_len (pma_cons (pm_idx hu1 (pm_var 2) pm_int) pma_nil) g.b_len) pma_nil) g.b_range) (fun _ _ _ _ _ => (pmg_name (vs := [14]) 14 nd)) (fun _ _ _ _ _ => pmts_nil) (fun _ _ _ _ _ => (pm_tup (pma_cons (pm_var 14) (pma_cons pm_int pma_nil))))) pma_nil) g.b_tuple))
 (pms_cons (pms_set 13 nd (pm_callTy call_tuple_of calls_tuple (pma_cons (pm_lc false [("_law_u", 14)] rfl nd (blkOk_by (by kernel_rfl)) (pmi_rng1 (pma_cons (pm_callB call_len calls_len (pma_cons (pm_idx hu1 (pm_var 2) pm_int) pma_nil) g.b_len) pma_nil) g.b_range) (fun _ _ _ _ _ => (pmg_name (vs := [14]) 14 nd)) (fun _ _ _ _ _ => pmts_nil) (fun _ _ _ _ _ => (pm_tup (pma_cons pm_str (pma_cons (pm_var 14) pma_nil))))) pma_nil) g.b_tuple))
 (pms_cons (pms_if (pmt_not (pmt_val (pm_call c_f_law_same hr (by decide) (pma_cons (pm_call c_f_skipped_after hr (by decide) (pma_cons (pm_var 2) (pma_cons (pm_var 12) (pma_cons (pm_var 5) (pma_cons (pm_var 13) pma_nil))))) (pma_cons (pm_call c_f_after hr (by decide) (pma_cons (pm_var 2) (pma_cons (pm_var 5) (pma_cons (pm_tup (pma_cons (pm_tup (pma_cons pm_str (pma_cons (pm_tup pma_nil) pma_nil))) pma_nil)) pma_nil)))) pma_nil)))))
 (pms_cons (pms_ret pm_bl)
 pms_nil)
 pms_nil)
 (pms_cons (pms_ret (pm_call c_f_law_is_round hr (by decide) (pma_cons (pm_var 1) (pma_cons (pm_var 2) (pma_cons (pm_var 4) (pma_cons (pm_var 5) pma_nil))))))
 pms_nil)))))))))))))))))))
end
theorem c_all {P : Program} {w : World} {K : PySem.W.Frag} {mg : Str → Option Value} {base : Heap} (g : Top K mg) {f : Addr} {fd : FuncData} (D : C8.Def K mg "law" (topS 74) f fd) : CalA P w K mg base 20 "law" f fd ["_law_script"] (spF K f_law) := by
  have c_f_law_deck := c_f_law_deck (P := P) (w := w) (base := base) g 
  have c_f_law_draw := c_f_law_draw (P := P) (w := w) (base := base) g 
  have c_f_law_order := c_f_law_order (P := P) (w := w) (base := base) g c_f_law_draw
  have c_f_law_pick := c_f_law_pick (P := P) (w := w) (base := base) g c_f_law_draw
  have c_f_law_places := c_f_law_places (P := P) (w := w) (base := base) g 
  have c_f_law_touched := c_f_law_touched (P := P) (w := w) (base := base) g 
  have c_f_law_floor := c_f_law_floor (P := P) (w := w) (base := base) g c_f_law_draw c_f_law_order c_f_law_pick c_f_law_places c_f_law_touched
  have c_f_law_gcd := c_f_law_gcd (P := P) (w := w) (base := base) g 
  have c_f_law_same := c_f_law_same (P := P) (w := w) (base := base) g  12
  have c_f_arranged := c_f_arranged (P := P) (w := w) (base := base) g 
  have c_f_is_integer := c_f_is_integer (P := P) (w := w) (base := base) g 
  have c_f_is_between := c_f_is_between (P := P) (w := w) (base := base) g c_f_is_integer
  have c_f_is_call := c_f_is_call (P := P) (w := w) (base := base) g c_f_is_between
  have c_f_is_from := c_f_is_from (P := P) (w := w) (base := base) g c_f_is_integer
  have c_f_is_skip_step := c_f_is_skip_step (P := P) (w := w) (base := base) g c_f_is_between c_f_is_call c_f_is_from
  have c_f_is_skip_plan := c_f_is_skip_plan (P := P) (w := w) (base := base) g c_f_is_skip_step
  have c_f_followed := c_f_followed (P := P) (w := w) (base := base) g 
  have c_f_seat_of := c_f_seat_of (P := P) (w := w) (base := base) g 
  have c_f_seat_touches := c_f_seat_touches (P := P) (w := w) (base := base) g c_f_seat_of
  have c_f_place_behind := c_f_place_behind (P := P) (w := w) (base := base) g 
  have c_f_places_of := c_f_places_of (P := P) (w := w) (base := base) g 
  obtain cd_f_step_seats := ca_f_step_seats (P := P) (w := w) (base := base) g c_f_place_behind c_f_places_of c_f_seat_of
  have c_f_call_map := c_f_call_map (P := P) (w := w) (base := base) g c_f_seat_touches cd_f_step_seats
  have c_f_map_power := c_f_map_power (P := P) (w := w) (base := base) g c_f_followed
  have c_f_skip_map := c_f_skip_map (P := P) (w := w) (base := base) g c_f_place_behind c_f_places_of c_f_seat_of
  have c_f_step_skipped := c_f_step_skipped g c_f_call_map c_f_followed c_f_map_power c_f_skip_map 6
  have c_f_map_skipped := c_f_map_skipped (P := P) (w := w) (base := base) g c_f_call_map c_f_followed c_f_map_power c_f_skip_map
  have c_f_is_arrangement_value := c_f_is_arrangement_value (P := P) (w := w) (base := base) g c_f_is_between
  have c_f_are_rings_value := c_f_are_rings_value (P := P) (w := w) (base := base) g c_f_is_from
  have c_f_is_pair := c_f_is_pair (P := P) (w := w) (base := base) g 
  have c_f_is_place_of := c_f_is_place_of (P := P) (w := w) (base := base) g c_f_is_between c_f_is_pair
  have c_f_is_touch_of := c_f_is_touch_of (P := P) (w := w) (base := base) g c_f_is_pair c_f_is_place_of
  have c_f_are_touches_of := c_f_are_touches_of (P := P) (w := w) (base := base) g c_f_is_touch_of
  have c_f_is_floor_value := c_f_is_floor_value (P := P) (w := w) (base := base) g c_f_are_rings_value c_f_are_touches_of c_f_is_pair
  have c_f_need_floor := c_f_need_floor (P := P) (w := w) (base := base) g c_f_is_floor_value
  have c_f_need_arrangement := c_f_need_arrangement (P := P) (w := w) (base := base) g c_f_is_arrangement_value c_f_need_floor
  have c_f_is_skip_of := c_f_is_skip_of (P := P) (w := w) (base := base) g c_f_is_between c_f_is_pair
  have c_f_are_skips_value := c_f_are_skips_value (P := P) (w := w) (base := base) g c_f_is_skip_of
  have c_f_need_skips := c_f_need_skips (P := P) (w := w) (base := base) g c_f_are_skips_value c_f_need_floor
  obtain ⟨c_f_skipped_after, ck0_f_skipped_after⟩ := ca_f_skipped_after (P := P) (w := w) (base := base) g c_f_arranged c_f_is_skip_plan c_f_map_skipped c_f_need_arrangement c_f_need_skips
  have c_f_law_is_round := c_f_law_is_round (P := P) (w := w) (base := base) g c_f_law_draw c_f_law_gcd c_f_law_same c_f_skipped_after
  have c_f_law_led := c_f_law_led (P := P) (w := w) (base := base) g 
  have c_f_law_beat := c_f_law_beat (P := P) (w := w) (base := base) g 
  have c_f_law_then := c_f_law_then (P := P) (w := w) (base := base) g 
  have c_f_law_power := c_f_law_power (P := P) (w := w) (base := base) g c_f_law_then
  have c_f_law_skip := c_f_law_skip (P := P) (w := w) (base := base) g 
  have c_f_law_map := c_f_law_map (P := P) (w := w) (base := base) g c_f_law_beat c_f_law_power c_f_law_skip c_f_law_then 6
  have c_f_law_call := c_f_law_call (P := P) (w := w) (base := base) g c_f_law_draw
  have c_f_law_plan := c_f_law_plan (P := P) (w := w) (base := base) g c_f_law_call c_f_law_draw c_f_law_pick 6
  have c_f_law_skips := c_f_law_skips (P := P) (w := w) (base := base) g c_f_law_draw c_f_law_pick
  have c_f_law_table := c_f_law_table (P := P) (w := w) (base := base) g c_f_law_places
  have c_f_step_map := c_f_step_map g c_f_call_map c_f_followed c_f_map_power 6
  have c_f_map_of := c_f_map_of (P := P) (w := w) (base := base) g c_f_call_map c_f_followed c_f_map_power
  have c_f_is_step := c_f_is_step (P := P) (w := w) (base := base) g c_f_is_call c_f_is_from
  have c_f_is_plan_value := c_f_is_plan_value (P := P) (w := w) (base := base) g c_f_is_step
  have c_f_need_plan := c_f_need_plan (P := P) (w := w) (base := base) g c_f_is_plan_value c_f_need_floor
  have c_f_after := c_f_after (P := P) (w := w) (base := base) g c_f_arranged c_f_map_of c_f_need_arrangement c_f_need_plan
  exact ca_flaw g D c_f_law_deck c_f_law_floor c_f_law_is_round c_f_law_led c_f_law_map c_f_law_order c_f_law_pick c_f_law_plan c_f_law_power c_f_law_same c_f_law_skips c_f_law_table c_f_after c_f_skipped_after ck0_f_skipped_after
end K78

namespace K78
open PySem Mi
structure Deck where
  cs : List Int
  mx : Int
  tn : Int
  ok : cs.length ≤ 100
def deckC (D : Deck) : Cells := [(true, .lst (D.cs.map .int)), (true, .dK [.inr "cells", .inr "mixed", .inr "turn"] [.ref 0, .int D.mx, .int D.tn])]
def last3 (f tn b : Int) : Int := ((((f * 40014 + 29) % 2147483563 * ((f * 40014 + 29) % 2147483563) + 70001 * tn + 29) % 2147483579 * 39373) % 2147483647 / 64) % b
theorem s1 : sml 40014 = true := by decide
theorem s2 : sml 61001 = true := by decide
theorem s3 : sml 70001 = true := by decide
theorem s4 : sml 39373 = true := by decide
theorem s5 (x : Int) : sml (x % 2147483563) = true := sml_of (by omega) (by omega)
theorem s6 : posD 64 = true := by decide
theorem s7 : sml 10 = true := by decide
theorem draw_nil (mx tn b : Int) (hb : 0 < b) (rest : Cells) : f_law_draw [.ref 1, .int b] ((true, .lst []) :: (true, .dK [.inr "cells", .inr "mixed", .inr "turn"] [.ref 0, .int mx, .int tn]) :: rest) = .ok (.int (last3 (mx + 61001 * (tn + 1)) (tn + 1) b)) ((true, .lst []) :: (true, .dK [.inr "cells", .inr "mixed", .inr "turn"] [.ref 0, .int mx, .int (tn + 1)]) :: rest) := by
  simp [f_law_draw, b_f_law_draw, mkFn, argsL, idxD, dictOf, dgetD, keyOf, lookD, setD, putD, replD, okW, refsLt, refsLts, neC, eqC, der, okD, okDs, eqD, eqDs, s1, s2, s3, s4, s5, s6, hb, big, last3]
theorem popM_snoc (base : Nat) (c : Int) (cs : List Int) (d : Bool × D) (rest : Cells) : popM base (.ref 0) [] ((true, .lst (cs.map D.int ++ [.int c])) :: rest) = .ok (.int c) ((true, .lst (cs.map D.int)) :: rest) := by
  simp [popM]
theorem okDs_ints : ∀ (n : Nat) (cs : List Int), okDs (n + 1) (cs.map D.int) = true
  | n, [] => rfl
  | n, c :: cs => by simp only [List.map_cons, okDs, okD, Bool.true_and]; exact okDs_ints n cs
theorem okDs_ints' (n : Nat) (cs : List Int) (c : Int) : okDs (n + 1) (cs.map D.int ++ [.int c]) = true := by
  have := okDs_ints n (cs ++ [c])
  simpa using this
theorem eqDs_snoc (cs : List Int) (c : Int) : eqDs (cs.map D.int ++ [.int c]) [] = false := by cases cs <;> rfl
theorem draw_big (cs : List Int) (c mx tn b : Int) (hl : cs.length ≤ 99) (hb : 0 < b) (h2 : b < 2 ^ 64) (hc : 1000000000000000000 ≤ c) (rest : Cells) : f_law_draw [.ref 1, .int b] ((true, .lst (cs.map D.int ++ [.int c])) :: (true, .dK [.inr "cells", .inr "mixed", .inr "turn"] [.ref 0, .int mx, .int tn]) :: rest)
    = .ok (.int (c % b)) ((true, .lst (cs.map D.int ++ [.int (c / max 2 b)])) :: (true, .dK [.inr "cells", .inr "mixed", .inr "turn"] [.ref 0, .int mx, .int (tn + 1)]) :: rest) := by
  have p1 : posD (max 2 b) = true := posD_of (by omega) (by omega)
  have p2 := okDs_ints' 58 cs c
  have p3 : cs.length < 1000000 := by omega
  simp [f_law_draw, b_f_law_draw, mkFn, argsL, idxD, dictOf, dgetD, keyOf, lookD, setD, putD, replD, okW, refsLt, refsLts, neC, eqC, der, okD, okDs, eqD, eqDs_snoc, s1, s2, s3, s4, s5, s6, s7, hb, big, lstOf, popM, appendM, powD, hc, twoF, p1, p2, p3]
theorem draw_small (cs : List Int) (c mx tn b : Int) (hb : 0 < b) (hc : ¬ 1000000000000000000 ≤ c) (rest : Cells) : f_law_draw [.ref 1, .int b] ((true, .lst (cs.map D.int ++ [.int c])) :: (true, .dK [.inr "cells", .inr "mixed", .inr "turn"] [.ref 0, .int mx, .int tn]) :: rest)
    = .ok (.int (last3 (mx + 61001 * (tn + 1) + c % 2147483549) (tn + 1) b)) ((true, .lst (cs.map D.int)) :: (true, .dK [.inr "cells", .inr "mixed", .inr "turn"] [.ref 0, .int mx, .int (tn + 1)]) :: rest) := by
  have p2 := okDs_ints' 58 cs c
  simp [f_law_draw, b_f_law_draw, mkFn, argsL, idxD, dictOf, dgetD, keyOf, lookD, setD, putD, replD, okW, refsLt, refsLts, neC, eqC, der, okD, okDs, eqD, eqDs_snoc, s1, s2, s3, s4, s5, s6, s7, hb, big, lstOf, popM, powD, hc, p2, last3]
theorem draw_eq (D : Deck) (b : Int) (hb : 0 < b) (h2 : b < 2 ^ 64) : ∃ r D', 0 ≤ r ∧ r < b ∧ ∀ rest, f_law_draw [.ref 1, .int b] (deckC D ++ rest) = .ok (.int r) (deckC D' ++ rest) := by
  obtain ⟨cs, mx, tn, ok⟩ := D
  rcases List.eq_nil_or_concat cs with rfl | ⟨cs, c, rfl⟩
  · exact ⟨_, ⟨[], mx, tn + 1, by simp⟩, Int.emod_nonneg _ (by omega), Int.emod_lt_of_pos _ hb, fun rest => draw_nil mx tn b hb rest⟩
  · rw [List.concat_eq_append, List.length_append, List.length_singleton] at ok
    by_cases hc : 1000000000000000000 ≤ c
    · refine ⟨c % b, ⟨cs ++ [c / max 2 b], mx, tn + 1, by simpa using ok⟩, Int.emod_nonneg _ (by omega), Int.emod_lt_of_pos _ hb, fun rest => ?_⟩
      have := draw_big cs c mx tn b (by omega) hb h2 hc rest
      simpa [deckC] using this
    · refine ⟨last3 (mx + 61001 * (tn + 1) + c % 2147483549) (tn + 1) b, ⟨cs, mx, tn + 1, by omega⟩, Int.emod_nonneg _ (by omega), Int.emod_lt_of_pos _ hb, fun rest => ?_⟩
      have := draw_small cs c mx tn b hb hc rest
      simpa [deckC] using this
/-- what a draw gives, and the deck behind it -/
noncomputable def dr (D : Deck) (b : Int) : Int × Deck := open Classical in if h : 0 < b ∧ b < 2 ^ 64 then ((draw_eq D b h.1 h.2).choose, (draw_eq D b h.1 h.2).choose_spec.choose) else (0, D)
theorem dr_spec (D : Deck) {b : Int} (hb : 0 < b) (h2 : b < 2 ^ 64) : 0 ≤ (dr D b).1 ∧ (dr D b).1 < b ∧ ∀ rest, f_law_draw [.ref 1, .int b] (deckC D ++ rest) = .ok (.int (dr D b).1) (deckC (dr D b).2 ++ rest) := by
  unfold dr
  rw [dif_pos ⟨hb, h2⟩]
  exact (draw_eq D b hb h2).choose_spec.choose_spec
end K78

namespace K78
open PySem Mi
/-! ### data -/
abbrev Pl := Nat × Nat
def nD (n : Nat) : D := .int n
def plD (p : Pl) : D := .tup [nD p.1, nD p.2]
def toD (t : Pl × Pl) : D := .tup [plD t.1, plD t.2]
def rgsD (rs : List Nat) : D := .tup (rs.map nD)
def flD (rs : List Nat) (ts : List (Pl × Pl)) : D := .tup [rgsD rs, .tup (ts.map toD)]
def plLt (a b : Pl) : Bool := decide (a.1 < b.1 ∨ a.1 = b.1 ∧ a.2 < b.2)
def okPl (rs : List Nat) (p : Pl) : Bool := match rs[p.1]? with | some n => decide (p.2 < n) | none => false
section
variable {h : Cells}
theorem is_integer_int (i : Int) : f_is_integer [.int i] h = .ok (.bl true) h := by
  simp [f_is_integer, b_f_is_integer, mkFn, argsL, der, isaD, refsLt]
theorem is_from_int (i j : Int) : f_is_from [.int i, .int j] h = .ok (.bl (decide (j ≤ i))) h := by
  simp [f_is_from, b_f_is_from, mkFn, argsL, is_integer_int, refsLt]
theorem is_between_int (i a b : Int) : f_is_between [.int i, .int a, .int b] h = .ok (.bl (decide (a ≤ i) && decide (i ≤ b))) h := by
  by_cases c : a ≤ i <;> simp [f_is_between, b_f_is_between, mkFn, argsL, is_integer_int, refsLt, c]
theorem is_pair_two (x y : D) : f_is_pair [.tup [x, y]] h = .ok (.bl true) h := by
  simp [f_is_pair, b_f_is_pair, mkFn, argsL, der, isaD, refsLt, lenF, seqOf, eqC, okD, eqD]
theorem bools_map {α : Type} (f : α → Bool) : ∀ l : List α, bools (l.map fun a => D.bl (f a)) = some (l.map f)
  | [] => rfl
  | a :: l => by simp [bools, bools_map f l]
theorem are_rings (rs : List Nat) (h1 : 1 ≤ rs.length) (h2 : rs.length ≤ 40) (h3 : ∀ r ∈ rs, 1 ≤ r) : f_are_rings_value [rgsD rs] h = .ok (.bl true) h := by
  have h1' : (1 : Int) ≤ rs.length := by omega
  have h2' : (rs.length : Int) ≤ 40 := by omega
  simp [f_are_rings_value, b_f_are_rings_value, mkFn, argsL, der, isaD, refsLt, lenF, seqOf, rgsD, h1', h2']
  rw [lcGo_mapι (φ := fun (a : Nat) => D.bl (decide ((1 : Int) ≤ (a : Int)))) (fun a ha => ⟨_, rfl, rfl, by simp [nD, is_from_int]⟩) (by simp [big]; omega)]
  simp [allF, lstOf, bools_map]
  intro x hx
  have := h3 x hx
  omega
theorem is_place (rs : List Nat) (p : Pl) (g : okPl rs p = true) : f_is_place_of [rgsD rs, plD p] h = .ok (.bl true) h := by
  unfold okPl at g
  split at g
  · rename_i n e
    have hp := (List.getElem?_eq_some_iff.mp e).1
    have g2 := of_decide_eq_true g
    have a0 : L2.atI [D.int (p.1 : Int), D.int (p.2 : Int)] 0 = some (D.int p.1) := rfl
    have a1 : L2.atI [D.int (p.1 : Int), D.int (p.2 : Int)] 1 = some (D.int p.2) := rfl
    have a2 : L2.atI (rs.map fun (n : Nat) => D.int (n : Int)) (p.1 : Int) = some (D.int n) := L2.atI_nat (by rw [List.getElem?_map, e]; rfl)
    have c1 : (p.1 : Int) ≤ rs.length - 1 := by omega
    have c2 : (p.2 : Int) ≤ n - 1 := by omega
    have nd : nD = fun n : Nat => D.int (n : Int) := rfl
    simp [f_is_place_of, b_f_is_place_of, mkFn, argsL, plD, rgsD, nd, is_pair_two, is_between_int, idxD, dictOf, seqOf, lenF, refsLt, a0, a1, a2, c1, c2]
  · cases g
theorem plLt_lt (a b : Pl) : ltDD (plD a) (plD b) = plLt a b := by
  show PySem.W.dataLt (.tuple [.int (a.1 : Int), .int (a.2 : Int)]) (.tuple [.int (b.1 : Int), .int (b.2 : Int)]) = _
  rw [PySem.W.dataLt_ii]
  unfold plLt
  simp only [Int.ofNat_lt, Int.ofNat_inj]
theorem ltA_pl (a b : Pl) : ltA h (plD a) (plD b) = some (plLt a b) := by
  have : alikeD (plD a) (plD b) = true := rfl
  have n1 : okD 60 (plD a) = true := rfl
  have n2 : okD 60 (plD b) = true := rfl
  have n3 : isNon (plD a) = false := rfl
  unfold ltA
  have e1 : ∀ x, der h (plD x) = plD x := fun x => rfl
  rw [e1, e1, this, n1, n2, n3, plLt_lt]
  simp
theorem is_touch (rs : List Nat) (t : Pl × Pl) (g1 : okPl rs t.1 = true) (g2 : okPl rs t.2 = true) (g3 : plLt t.1 t.2 = true) : f_is_touch_of [rgsD rs, toD t] h = .ok (.bl true) h := by
  have a0 : L2.atI [plD t.1, plD t.2] 0 = some (plD t.1) := rfl
  have a1 : L2.atI [plD t.1, plD t.2] 1 = some (plD t.2) := rfl
  simp [f_is_touch_of, b_f_is_touch_of, mkFn, argsL, toD, is_pair_two, is_place, g1, g2, g3, idxD, dictOf, seqOf, refsLt, a0, a1, ltA_pl]

/-! the touches -/
mutual
theorem eqD_self : ∀ {n : Nat} (d : D), okD n d = true → eqD d d = true
  | _, .non, _ => rfl
  | _, .bl b, _ => by simp [eqD]
  | _, .int b, _ => by simp [eqD]
  | _, .str b, _ => by simp [eqD]
  | n, .tup xs, g => by
    simp only [okD, Bool.and_eq_true] at g
    simp only [eqD]
    exact eqDs_self xs g.2
  | n, .lst xs, g => by
    simp only [okD, Bool.and_eq_true] at g
    simp only [eqD]
    exact eqDs_self xs g.2
  | _, .scr _, g => by simp [okD] at g
  | _, .dK _ _, g => by simp [okD] at g
  | _, .dT _ _, g => by simp [okD] at g
  | _, .ref _, g => by simp [okD] at g
theorem eqDs_self : ∀ {n : Nat} (ds : List D), okDs n ds = true → eqDs ds ds = true
  | _, [], _ => rfl
  | n, x :: r, g => by
    simp only [okDs, Bool.and_eq_true] at g
    simp only [eqDs, Bool.and_eq_true]
    exact ⟨eqD_self x g.1, eqDs_self r g.2⟩
end
theorem okDs_map {α : Type} {n : Nat} {f : α → D} (hf : ∀ a, okD n (f a) = true) : ∀ l : List α, okDs n (l.map f) = true
  | [] => rfl
  | a :: l => by simp only [List.map_cons, okDs, hf a, Bool.true_and]; exact okDs_map hf l
def toLt (a b : Pl × Pl) : Bool := if a.1 = b.1 then (if a.2 = b.2 then false else plLt a.2 b.2) else plLt a.1 b.1
theorem eqv_pl (a b : Pl) : PyData.eqv (toP (plD a)) (toP (plD b)) = decide (a = b) := by
  rw [eqv_eqD (n := 60) (k := 60) rfl rfl]
  show eqDs [nD a.1, nD a.2] [nD b.1, nD b.2] = _
  obtain ⟨a1, a2⟩ := a
  obtain ⟨b1, b2⟩ := b
  have z : ∀ x y : Nat, ((x : Int) == (y : Int)) = decide (x = y) := fun x y => by
    rw [Bool.eq_iff_iff]; simp; omega
  simp [eqDs, nD, eqD, z]
theorem toLt_lt (a b : Pl × Pl) : ltDD (toD a) (toD b) = toLt a b := by
  show PySem.W.dataLt (.tuple [toP (plD a.1), toP (plD a.2)]) (.tuple [toP (plD b.1), toP (plD b.2)]) = _
  rw [PySem.W.dataLt_pair rfl rfl, eqv_pl, eqv_pl]
  have e := plLt_lt
  unfold ltDD at e
  rw [e, e]
  unfold toLt
  by_cases c1 : a.1 = b.1
  · by_cases c2 : a.2 = b.2 <;> simp [c1, c2]
  · simp [c1]
def someP (ts : List (Pl × Pl)) : List Pl := ts.flatMap fun t => [t.1, t.2]
theorem okD_to (t : Pl × Pl) : okD 58 (toD t) = true := rfl
theorem sortOk_ts (ts : List (Pl × Pl)) : sortOk (ts.map toD) = true := by
  unfold sortOk
  simp only [Bool.and_eq_true, List.all_map, List.all_eq_true, Bool.or_eq_true, Function.comp]
  exact ⟨⟨okDs_map (fun t => rfl) ts, fun a _ b _ => rfl⟩, .inl fun a _ => rfl⟩
theorem sortD_ts {ts : List (Pl × Pl)} (hs : ts.Pairwise fun a b => toLt b a = false) : sortD (ts.map toD) = ts.map toD := by
  unfold sortD
  refine List.mergeSort_of_pairwise ?_
  rw [List.pairwise_map]
  refine hs.imp fun {a b} h => ?_
  unfold leD
  rw [toLt_lt, h]
  rfl
theorem intsOfT_pl : ∀ ps : List Pl, intsOfT (ps.map plD) = some (ps.map fun p => [(p.1 : Int), (p.2 : Int)])
  | [] => rfl
  | p :: ps => by
    show (match intsOf [nD p.1, nD p.2], intsOfT (ps.map plD) with | some k, some ks => some (k :: ks) | _, _ => none) = _
    rw [intsOfT_pl ps]
    rfl
theorem are_touches (rs : List Nat) (ts : List (Pl × Pl)) (g : ∀ t ∈ ts, okPl rs t.1 = true ∧ okPl rs t.2 = true ∧ plLt t.1 t.2 = true) (hs : ts.Pairwise fun a b => toLt b a = false) (hn : (someP ts).Nodup) (hl : ts.length < 30) :
    f_are_touches_of [rgsD rs, .tup (ts.map toD)] h = .ok (.bl true) h := by
  have l1 : (someP ts).length = 2 * ts.length := by
    unfold someP
    clear g hs hn hl
    induction ts with
    | nil => rfl
    | cons t ts ih => simp only [List.flatMap_cons, List.length_append, ih, List.length_cons, List.length_nil]; omega
  simp [f_are_touches_of, b_f_are_touches_of, mkFn, argsL, der, isaD]
  rw [lcGo_mapι (φ := fun (t : Pl × Pl) => D.bl true) (fun t ht => ⟨_, rfl, rfl, by
    obtain ⟨g1, g2, g3⟩ := g t ht
    simp [is_touch rs t g1 g2 g3]⟩) (by simp [big]; omega)]
  have tt : ∀ l : List (Pl × Pl), bools (l.map fun _ => D.bl true) = some (l.map fun _ => true) := fun l => bools_map (fun _ => true) l
  simp [allF, lstOf, tt]
  have sm : ∀ l : List (Pl × Pl), (l.map fun _ => 2).sum = 2 * l.length := fun l => by
    induction l with
    | nil => rfl
    | cons t l ih => simp only [List.map_cons, List.sum_cons, ih, List.length_cons]; omega
  rw [lc2Go_mapι (ι := toD) (L := fun t => [t.1, t.2]) (κ := fun _ p => plD p) (φ := fun _ p => plD p) (fun t ht => ⟨_, rfl, rfl, rfl, fun p hp => ⟨_, rfl, rfl, rfl⟩⟩) (by have := sm ts; simp [big]; omega)]
  have fm : (ts.flatMap fun a => [plD a.1, plD a.2]) = (someP ts).map plD := by
    unfold someP
    rw [List.map_flatMap]
    rfl
  have srt := sortD_ts hs
  have e1 : eqDs (ts.map toD) (ts.map toD) = true := eqDs_self (n := 59) _ (okDs_map (fun t => rfl) ts)
  have o1 : okDs 59 (ts.map toD) = true := okDs_map (fun t => rfl) ts
  have n1 : ((someP ts).map fun p => [(p.1 : Int), (p.2 : Int)]).Nodup := by
    rw [List.Nodup, List.pairwise_map]
    refine hn.imp fun {a b} hab e => hab ?_
    obtain ⟨a1, a2⟩ := a
    obtain ⟨b1, b2⟩ := b
    simp at e
    simp; omega
  have l2 : 2 * ts.length < 64 := by omega
  simp [listF, seqOf, sortedF, sortOk_ts, srt, eqC, der, okD, eqD, e1, o1, lenSetF, lstOf, lenF, fm, intsOfT_pl, n1, l1, l2]
end
end K78

namespace K78
open PySem Mi
/-! the floor -/
structure OkF (rs : List Nat) (ts : List (Pl × Pl)) : Prop where
  l1 : 1 ≤ rs.length
  l2 : rs.length ≤ 40
  r1 : ∀ r ∈ rs, 1 ≤ r
  t1 : ∀ t ∈ ts, okPl rs t.1 = true ∧ okPl rs t.2 = true ∧ plLt t.1 t.2 = true
  t2 : ts.Pairwise fun a b => toLt b a = false
  t3 : (someP ts).Nodup
  t4 : ts.length < 30
  sm : rs.sum ≤ 60
def pls : Nat → List Nat → List Pl
  | _, [] => []
  | u, r :: rs => ((List.range r).map fun i => (u, i)) ++ pls (u + 1) rs
def seat (rs : List Nat) (p : Pl) : Nat := (rs.take p.1).sum + p.2
def beh (rs : List Nat) (p : Pl) (k : Nat) : Pl := (p.1, (p.2 + k) % (rs[p.1]?.getD 0))
section
variable {h : Cells} {rs : List Nat} {ts : List (Pl × Pl)}
theorem is_floor (o : OkF rs ts) : f_is_floor_value [flD rs ts] h = .ok (.bl true) h := by
  have a0 : L2.atI [rgsD rs, .tup (ts.map toD)] 0 = some (rgsD rs) := rfl
  have a1 : L2.atI [rgsD rs, .tup (ts.map toD)] 1 = some (.tup (ts.map toD)) := rfl
  simp [f_is_floor_value, b_f_is_floor_value, mkFn, argsL, flD, is_pair_two, idxD, dictOf, seqOf, refsLt, a0, a1, are_rings rs o.l1 o.l2 o.r1, are_touches rs ts o.t1 o.t2 o.t3 o.t4]
theorem need_floor (o : OkF rs ts) : f_need_floor [flD rs ts] h = .ok .non h := by
  simp [f_need_floor, b_f_need_floor, mkFn, argsL, is_floor o, refsLt]
theorem nD_def : nD = fun n : Nat => D.int (n : Int) := rfl
theorem nD_ap (n : Nat) : nD n = D.int (n : Int) := rfl
theorem enum_lst : ∀ (u : Nat) (rs : List Nat), enumD u (rs.map nD) = (rs.zipIdx u).map fun a => .tup [nD a.2, nD a.1]
  | u, [] => rfl
  | u, r :: rs => by
    have := enum_lst (u + 1) rs
    simp [enumD, this, List.zipIdx, nD]
theorem pls_zip : ∀ (u : Nat) (rs : List Nat), ((rs.zipIdx u).flatMap fun a => (List.range a.1).map fun i => ((a.2, i) : Pl)) = pls u rs
  | u, [] => rfl
  | u, r :: rs => by simp only [List.zipIdx_cons, List.flatMap_cons, pls_zip (u + 1) rs, pls]
theorem refs_pl (n : Nat) (p : Pl) : refsLt n (plD p) = true := by simp [plD, nD]
theorem le_sum : ∀ {l : List Nat} {a : Nat}, a ∈ l → a ≤ l.sum
  | b :: l, a, m => by
    rw [List.sum_cons]
    rcases List.mem_cons.mp m with rfl | m
    · omega
    · have := le_sum m; omega
theorem places_of (o : rs.sum ≤ 60) : f_places_of [rgsD rs] h = .ok (.lst ((pls 0 rs).map plD)) h := by
  have e := enum_lst 0 rs
  have sz : ∀ (u : Nat) (l : List Nat), ((l.zipIdx u).map fun a => a.1).sum = l.sum := by
    intro u l
    induction l generalizing u with
    | nil => rfl
    | cons a l ih => simp [List.zipIdx_cons, ih]
  simp [f_places_of, b_f_places_of, mkFn, argsL, rgsD, e]
  rw [lc2Go_mapι (ι := fun a : Nat × Nat => .tup [nD a.2, nD a.1]) (L := fun a => List.range a.1) (κ := fun _ i => nD i) (φ := fun a i => plD (a.2, i)) (fun a ha => ⟨⟨h.length, [some (rgsD rs), some (nD a.2), some (nD a.1), none]⟩, by simp [rgsD], rfl, by
    have h1 : a.1 ∈ rs := (List.mem_zipIdx' ha).2 ▸ List.getElem_mem _
    have h2 := le_sum h1
    exact I_rng_nat a.1 (by omega) rfl, fun i hi => ⟨⟨h.length, [some (rgsD rs), some (nD a.2), some (nD a.1), some (nD i)]⟩, by simp, rfl, by simp [plD, big]⟩⟩) (by have := sz 0 rs; simp [big]; omega)]
  have := pls_zip 0 rs
  have e2 : (rs.zipIdx.flatMap fun a => (List.range a.1).map fun i => plD (a.2, i)) = (pls 0 rs).map plD := by
    rw [← this, List.map_flatMap]
    simp [List.map_map, Function.comp_def]
  simp [e2, refsLts_map (refs_pl h.length)]
theorem intsOf_nD : ∀ l : List Nat, intsOf (l.map nD) = some (l.map fun n : Nat => (n : Int))
  | [] => rfl
  | n :: l => by
    show (match intsOf (l.map nD) with | _ => _) = _
    simp [intsOf, intsOf_nD l, nD]
theorem sum_cast : ∀ l : List Nat, (l.map fun n : Nat => (n : Int)).sum = (l.sum : Nat)
  | [] => rfl
  | n :: l => by simp [sum_cast l]
theorem cut_none_nat (l : List D) (n : Nat) (hn : n ≤ l.length) : cutD l none (some (n : Int)) = l.take n := by
  unfold cutD
  rw [HT.sIx_none, HT.sIx_nat]
  simp
theorem seat_of (p : Pl) (hp : p.1 ≤ rs.length) : f_seat_of [rgsD rs, plD p] h = .ok (nD (seat rs p)) h := by
  have c := cut_none_nat (rs.map nD) p.1 (by simpa using hp)
  have i1 := intsOf_nD (rs.take p.1)
  have i2 := sum_cast (rs.take p.1)
  rw [List.map_take] at i1 i2
  rw [nD_def] at c i1
  simp [f_seat_of, b_f_seat_of, mkFn, argsL, plD, rgsD, nD_def, idxD, dictOf, seqOf, refsLt, sumA, seqInts, sliceD, c, i1, i2, seat]
theorem place_behind (p : Pl) (k n : Nat) (hp : rs[p.1]? = some n) (hn : 0 < n) : f_place_behind [rgsD rs, plD p, nD k] h = .ok (plD (beh rs p k)) h := by
  have a2 : L2.atI (rs.map fun n : Nat => D.int (n : Int)) (p.1 : Int) = some (.int (n : Int)) := L2.atI_nat (by rw [List.getElem?_map, hp]; rfl)
  simp [f_place_behind, b_f_place_behind, mkFn, argsL, plD, rgsD, nD_def, idxD, dictOf, seqOf, refsLt, a2, beh, hp, hn, big]
theorem mem_pls : ∀ {u : Nat} {rs : List Nat} {p : Pl}, p ∈ pls u rs → ∃ j n, p.1 = u + j ∧ rs[j]? = some n ∧ p.2 < n
  | u, r :: rs, p, m => by
    rw [pls, List.mem_append, List.mem_map] at m
    rcases m with ⟨i, hi, rfl⟩ | m
    · exact ⟨0, r, rfl, rfl, List.mem_range.mp hi⟩
    · obtain ⟨j, n, e1, e2, e3⟩ := mem_pls m
      exact ⟨j + 1, n, by omega, e2, e3⟩
theorem pl_of_mem {p : Pl} (m : p ∈ pls 0 rs) : ∃ n, rs[p.1]? = some n ∧ p.2 < n := by
  obtain ⟨j, n, e1, e2, e3⟩ := mem_pls m
  have : j = p.1 := by omega
  exact ⟨n, this ▸ e2, e3⟩
theorem pls_len : ∀ (u : Nat) (rs : List Nat), (pls u rs).length = rs.sum
  | _, [] => rfl
  | u, r :: rs => by simp [pls, pls_len (u + 1) rs]
theorem lt_of_get {n j : Nat} {l : List Nat} (e : l[j]? = some n) : j < l.length := (List.getElem?_eq_some_iff.mp e).1
theorem refs_n (n m : Nat) : refsLt m (nD n) = true := by simp [nD]
theorem step_seats (o : rs.sum ≤ 60) (k : Nat) : f_step_seats [rgsD rs, nD k] h = .ok (.lst ((pls 0 rs).map fun p => nD (seat rs (beh rs p k)))) h := by
  have l := pls_len 0 rs
  simp [f_step_seats, b_f_step_seats, mkFn, argsL, places_of o]
  rw [lcGo_mapι (φ := fun p => nD (seat rs (beh rs p k))) (fun p hp => ⟨_, rfl, rfl, by
    obtain ⟨n, e1, e2⟩ := pl_of_mem hp
    have e3 := lt_of_get e1
    have e4 : (beh rs p k).1 ≤ rs.length := Nat.le_of_lt e3
    simp [place_behind p k n e1 (by omega), seat_of _ e4]⟩) (by simp [big]; omega)]
  simp [refsLts_map fun p : Pl => refs_n (seat rs (beh rs p k)) h.length]
theorem seat_touches (o : OkF rs ts) : f_seat_touches [flD rs ts] h = .ok (.lst (ts.map fun t => plD (seat rs t.1, seat rs t.2))) h := by
  have t4 := o.t4
  simp [f_seat_touches, b_f_seat_touches, mkFn, argsL, flD, idxD, dictOf, seqOf]
  rw [lcGo_mapι (φ := fun t : Pl × Pl => plD (seat rs t.1, seat rs t.2)) (fun t ht => ⟨⟨h.length, [some (flD rs ts), some (plD t.1), some (plD t.2)]⟩, by simp [toD, flD], rfl, by
    obtain ⟨g1, g2, g3⟩ := o.t1 t ht
    have le : ∀ p : Pl, okPl rs p = true → p.1 ≤ rs.length := fun p g => by
      unfold okPl at g
      split at g
      · rename_i n e; exact Nat.le_of_lt (lt_of_get e)
      · cases g
    simp [flD, idxD, dictOf, seqOf, seat_of _ (le _ g1), seat_of _ (le _ g2), big]
    rfl⟩) (by simp [big]; omega)]
  simp [refsLts_map fun t : Pl × Pl => refs_pl h.length (seat rs t.1, seat rs t.2)]
theorem enum_map {α : Type} (f : α → D) : ∀ (u : Nat) (l : List α), enumD u (l.map f) = (l.zipIdx u).map fun a => .tup [nD a.2, f a.1]
  | u, [] => rfl
  | u, r :: rs => by
    have := enum_map f (u + 1) rs
    simp [enumD, this, List.zipIdx, nD]
theorem set_last (h : Cells) (c d : Bool × D) : (h ++ [c]).set h.length d = h ++ [d] := by
  rw [List.set_append_right _ _ (Nat.le_refl _)]; simp
theorem get_last (h : Cells) (c : Bool × D) : (h ++ [c])[h.length]? = some c := by simp
theorem take_last (h : Cells) (c : Bool × D) : (h ++ [c]).take h.length = h := by simp
def skipL (rs : List Nat) (u r : Nat) : List Nat := (pls 0 rs).zipIdx.map fun a => if a.1.1 = u then seat rs (beh rs a.1 r) else a.2
theorem foldl_snoc {α β : Type} (f : α → β) : ∀ (l : List α) (s : List β), l.foldl (fun s a => s ++ [f a]) s = s ++ l.map f
  | [], s => by simp
  | a :: l, s => by simp [foldl_snoc f l]
theorem skip_map (o : rs.sum ≤ 60) (u r : Nat) : f_skip_map [flD rs ts, plD (u, r)] h = .ok (.lst ((skipL rs u r).map nD)) h := by
  have e := enum_map plD 0 (pls 0 rs)
  have lp := pls_len 0 rs
  have key := forGo_fold (vs := [3, 4]) (g := G_tup 2 (GS_cons (G_name 3) (GS_cons (G_name 4) GS_nil))) (b := S_cons (S_expr (E_mtL appendM (E_var 2) (A_cons (E_if (T_cmp eqC (E_idx (E_var 4) (E_c (.int 0))) (E_idx (E_var 1) (E_c (.int 0)))) (E_fn f_seat_of (A_cons (E_idx (E_var 0) (E_c (.int 0))) (A_cons (E_fn f_place_behind (A_cons (E_idx (E_var 0) (E_c (.int 0))) (A_cons (E_var 4) (A_cons (E_idx (E_var 1) (E_c (.int 1))) A_nil)))) A_nil))) (E_var 3)) A_nil)))
 S_nil) (ι := fun a : Pl × Nat => .tup [nD a.2, plD a.1]) (M := fun (_ : List Nat) => ⟨h.length, [some (flD rs ts), some (plD (u, r)), some (.ref h.length), none, none]⟩) (C := fun s => h ++ [(true, .lst (s.map nD))]) (f := fun s a => s ++ [if a.1.1 = u then seat rs (beh rs a.1 r) else a.2])
    (fun s l => s.length + l.length ≤ 60 ∧ ∀ a ∈ l, a.1 ∈ pls 0 rs) (fun s a l hs => ⟨by have := hs.1; simp at this ⊢; omega, fun b hb => hs.2 b (List.mem_cons_of_mem _ hb)⟩) (fun s a l hs => by
      obtain ⟨n, e1, e2⟩ := pl_of_mem (hs.2 a List.mem_cons_self)
      have e3 := lt_of_get e1
      have e4 : (beh rs a.1 r).1 ≤ rs.length := Nat.le_of_lt e3
      have e5 := hs.1
      have e6 : s.length < 1000000 := by simp at e5; omega
      have p1 := place_behind (h := h ++ [(true, .lst (s.map nD))]) a.1 r n e1 (by omega)
      have p2 := seat_of (h := h ++ [(true, .lst (s.map nD))]) _ e4
      refine ⟨⟨h.length, [some (flD rs ts), some (plD (u, r)), some (.ref h.length), some (nD a.2), some (plD a.1)]⟩, h ++ [(true, .lst (s.map nD))], ⟨h.length, [some (flD rs ts), some (plD (u, r)), some (.ref h.length), some (nD a.2), some (plD a.1)]⟩, by simp, ?_, by simp⟩
      have q1 : idxD (h ++ [(true, .lst (s.map nD))]) (plD a.1) (.int 0) = some (.int (a.1.1 : Int)) := by simp [idxD, dictOf, seqOf, plD, nD]
      have q2 : idxD (h ++ [(true, .lst (s.map nD))]) (plD (u, r)) (.int 0) = some (.int (u : Int)) := by simp [idxD, dictOf, seqOf, plD, nD]
      have q3 : idxD (h ++ [(true, .lst (s.map nD))]) (flD rs ts) (.int 0) = some (rgsD rs) := by simp [idxD, dictOf, seqOf, flD]
      have q4 : idxD (h ++ [(true, .lst (s.map nD))]) (plD (u, r)) (.int 1) = some (nD r) := by simp [idxD, dictOf, seqOf, plD]
      have q5 : ((a.1.1 : Int) == (u : Int)) = decide (a.1.1 = u) := by rw [Bool.eq_iff_iff]; simp; omega
      by_cases c : a.1.1 = u <;>
      simp [lstOf, q1, q2, q3, q4, p1, p2, q5, c, appendM, get_last, set_last, e6, big, okW, refs_n])
    (pls 0 rs).zipIdx [] ⟨by simp [lp]; omega, fun a ha => by
      have := (List.mem_zipIdx' ha)
      exact this.2 ▸ List.getElem_mem _⟩
  simp [f_skip_map, b_f_skip_map, mkFn, argsL, flD, idxD, dictOf, seqOf, places_of o, e, big]
  rw [foldl_snoc] at key
  simp [flD] at key
  simp [key, skipL]
  exact refsLts_map (fun a => refs_n _ _) _
end
end K78

namespace K78
open PySem Mi
/-! maps -/
def fol (a b : List Nat) : List Nat := a.map fun s => b.getD s 0
def lD (l : List Nat) : D := .lst (l.map nD)
def tD (l : List Nat) : D := .tup (l.map nD)
theorem atI_nD {l : List Nat} {s : Nat} (hs : s < l.length) : L2.atI (l.map nD) (s : Int) = some (nD (l.getD s 0)) := by
  refine L2.atI_nat ?_
  rw [List.getElem?_map, List.getD_eq_getElem?_getD, List.getElem?_eq_getElem hs]
  rfl
section
variable {h : Cells} {rs : List Nat} {ts : List (Pl × Pl)}
theorem followed (a b : List Nat) (ha : a.length ≤ 60) (hb : ∀ s ∈ a, s < b.length) : f_followed [lD a, lD b] h = .ok (lD (fol a b)) h := by
  simp [f_followed, b_f_followed, mkFn, argsL, lD]
  rw [lcGo_mapι (φ := fun s => nD (b.getD s 0)) (fun s hs => ⟨_, rfl, rfl, by
    have e := atI_nD (hb s hs)
    have e2 : idxD h (.lst (b.map nD)) (nD s) = some (nD (b.getD s 0)) := by
      show L2.atI (b.map nD) (s : Int) = _
      exact e
    simp only [E_idx_ap, E_var_ap, set_ap, List.getElem?_cons_succ, List.getElem?_cons_zero, List.set_cons_succ, List.set_cons_zero, wipe_ap, wipeL_nil, Res.bind_ok]
    rw [e2]
    rfl⟩) (by simp [big]; omega)]
  simp [fol, Function.comp_def]
  exact refsLts_map (fun s => refs_n _ _) _
/-- a map of n seats -/
structure Mp (n : Nat) (a : List Nat) : Prop where
  len : a.length = n
  lt : ∀ s ∈ a, s < n
theorem getD_mem {l : List Nat} {s : Nat} (hs : s < l.length) : l.getD s 0 ∈ l := by
  rw [List.getD_eq_getElem?_getD, List.getElem?_eq_getElem hs]
  exact List.getElem_mem hs
theorem Mp.fol {n : Nat} {a b : List Nat} (ha : Mp n a) (hb : Mp n b) : Mp n (fol a b) := ⟨by simp [K78.fol, ha.len], fun s m => by
  obtain ⟨t, ht, rfl⟩ := List.mem_map.mp m
  exact hb.lt _ (getD_mem (by rw [hb.len]; exact ha.lt t ht))⟩
def pw (k : Nat) (f s : List Nat) : List Nat := if k = 0 then f else pw (k / 2) (if k % 2 = 1 then fol f s else f) (fol s s)
termination_by k
decreasing_by omega
theorem Mp.pw {n : Nat} (k : Nat) : ∀ {f s : List Nat}, Mp n f → Mp n s → Mp n (K78.pw k f s) := by
  induction k using Nat.strongRecOn with
  | _ k ih =>
    intro f s hf hs
    rw [K78.pw]
    split
    · exact hf
    · refine ih (k / 2) (by omega) ?_ (hs.fol hs)
      split
      · exact hf.fol hs
      · exact hf
theorem Mp.range (n : Nat) : Mp n (List.range n) := ⟨by simp, fun s m => List.mem_range.mp m⟩
theorem power_loop {n : Nat} (hn : n ≤ 60) (bs : Nat) (l0 : D) (k : Nat) : ∀ {f s : List Nat}, Mp n f → Mp n s → k ≤ 2000000 → ∃ z, S_while [] (T_cmp (ltI fun i j => decide (j < i)) (E_var 1) (E_c (.int 0)))
 (S_cons (S_if (T_cmp eqC (E2 modD (E_var 1) (E_c (.int 2))) (E_c (.int 1)))
 (S_cons (S_set 2 (E_fn f_followed (A_cons (E_var 2) (A_cons (E_var 3) A_nil))))
 S_nil)
 S_nil)
 (S_cons (S_set 3 (E_fn f_followed (A_cons (E_var 3) (A_cons (E_var 3) A_nil))))
 (S_cons (S_set 1 (E2 divD (E_var 1) (E_c (.int 2))))
 S_nil))) ⟨bs, [some l0, some (nD k), some (lD f), some (lD s)]⟩ h = .ok (.nx ⟨bs, [some l0, some (nD 0), some (lD (pw k f s)), z]⟩) h := by
  induction k using Nat.strongRecOn with
  | _ k ih =>
    intro f s hf hs hk
    rw [S_while_turn, K78.pw]
    have f1 := followed (h := h) f s (by rw [hf.len]; exact hn) (fun x m => by rw [hs.len]; exact hf.lt x m)
    have f2 := followed (h := h) s s (by rw [hs.len]; exact hn) (fun x m => by rw [hs.len]; exact hs.lt x m)
    have p2 : posD 2 = true := by decide
    by_cases k0 : k = 0
    · subst k0
      exact ⟨some (lD s), by simp [nD]⟩
    · have k1 : 0 < k := by omega
      have e3 : ((k : Int) / 2) = ((k / 2 : Nat) : Int) := by omega
      rw [if_neg k0]
      by_cases c : k % 2 = 1
      · have c' : (k : Int) % 2 = 1 := by omega
        obtain ⟨z, e⟩ := ih (k / 2) (by omega) (hf.fol hs) (hs.fol hs) (by omega)
        refine ⟨z, ?_⟩
        rw [if_pos c, ← e]
        simp [nD, k1, c', f1, f2, p2]
      · have c' : ¬ (k : Int) % 2 = 1 := by omega
        obtain ⟨z, e⟩ := ih (k / 2) (by omega) hf (hs.fol hs) (by omega)
        refine ⟨z, ?_⟩
        rw [if_neg c, ← e]
        simp [nD, k1, c', f1, f2, p2]
theorem refs_lD (n : Nat) (l : List Nat) : refsLt n (lD l) = true := by
  simp only [lD, refsLt_lst']
  exact refsLts_map (fun s => refs_n _ _) _
theorem power_head {n : Nat} (hn : n ≤ 60) {a : List Nat} (ha : Mp n a) (k : Nat) : E_listRg false (A_cons (E_fn lenF (A_cons (E_var 0) A_nil)) A_nil) ⟨h.length, [some (lD a), some (nD k), none, none]⟩ h = .ok (lD (List.range n)) h := by
  rw [listRg_nat (h := h) n (by omega) (by simp [lenF, seqOf, lD, ha.len]) false]
  rfl
theorem map_power {n : Nat} (hn : n ≤ 60) {a : List Nat} (ha : Mp n a) (k : Nat) (hk : k ≤ 2000000) : f_map_power [lD a, nD k] h = .ok (lD (pw k (List.range n) a)) h := by
  obtain ⟨z, e⟩ := power_loop (h := h) hn h.length (lD a) k (Mp.range n) ha hk
  have r := power_head (h := h) hn ha k
  have q : argsL 4 [lD a, nD k] = [some (lD a), some (nD k), none, none] := rfl
  unfold f_map_power mkFn
  rw [if_pos (show [lD a, nD k].length = 2 from rfl), q]
  have b : b_f_map_power ⟨h.length, [some (lD a), some (nD k), none, none]⟩ h = .ok (.rt (lD (pw k (List.range n) a))) h := by
    unfold b_f_map_power
    rw [S_cons_ap, S_par_ap, A_cons_ap, r]
    simp only [Res.bind_ok, A_cons_ap, A_nil_ap, E_var_ap, List.getElem?_cons_zero, par2_ap, set_ap, List.set_cons_succ, List.set_cons_zero, Res.seq_nx, S_cons_ap]
    rw [e]
    rfl
  rw [b]
  simp [refs_lD]
end
end K78

namespace K78
open PySem Mi
/-! dicts -/
theorem lookD_put {κ : Type} [DecidableEq κ] : ∀ {ks : List κ} {xs : List D} {k j : κ} {d : D}, ks.length = xs.length → lookD (putD ks xs k d).1 (putD ks xs k d).2 j = if k = j then some d else lookD ks xs j := by
  intro ks xs k j d hl
  have ap : ∀ (ks : List κ) (xs : List D), ks.length = xs.length → k ∉ ks → lookD (ks ++ [k]) (xs ++ [d]) j = if k = j then some d else lookD ks xs j := by
    intro ks
    induction ks with
    | nil => intro xs hl _; cases xs with
      | nil => simp [lookD]
      | cons _ _ => simp at hl
    | cons a ks ih => intro xs hl hn; cases xs with
      | nil => simp at hl
      | cons x xs =>
        simp only [List.cons_append, lookD]
        rw [ih xs (by simpa using hl) (fun m => hn (List.mem_cons_of_mem _ m))]
        by_cases c : a = j
        · have : ¬ k = j := fun e => hn (by rw [e, ← c]; exact List.mem_cons_self)
          simp [c, this]
        · simp [c]
  have rp : ∀ (ks : List κ) (xs : List D), ks.length = xs.length → k ∈ ks → lookD ks (replD k d ks xs) j = if k = j then some d else lookD ks xs j := by
    intro ks
    induction ks with
    | nil => intro xs _ m; cases m
    | cons a ks ih => intro xs hl m; cases xs with
      | nil => simp at hl
      | cons x xs =>
        simp only [replD, lookD]
        by_cases ka : a = k
        · subst ka
          by_cases c : a = j
          · simp [c]
          · simp only [if_neg c]
            by_cases m2 : a ∈ ks
            · rw [ih xs (by simpa using hl) m2, if_neg c]
            · clear ih hl m
              have : ∀ (ks : List κ) (xs : List D), a ∉ ks → replD a d ks xs = xs := by
                intro ks
                induction ks with
                | nil => intro xs _; cases xs <;> rfl
                | cons b ks ih => intro xs hn; cases xs with
                  | nil => rfl
                  | cons x xs =>
                    have hb : ¬ b = a := fun e => hn (e ▸ List.mem_cons_self)
                    simp only [replD, if_neg hb, ih xs fun m => hn (List.mem_cons_of_mem _ m)]
              rw [this ks xs m2]
        · have m2 : k ∈ ks := (List.mem_cons.mp m).resolve_left fun e => ka e.symm
          rw [ih xs (by simpa using hl) m2]
          by_cases c : a = j
          · have : ¬ k = j := fun e => ka (c.trans e.symm)
            rw [if_pos c, if_neg this, if_pos c, if_neg ka]
          · simp [c]
  unfold putD
  split
  · rename_i m; exact rp ks xs hl m
  · rename_i m; exact ap ks xs hl m
theorem replD_len {κ : Type} [DecidableEq κ] (k : κ) (d : D) : ∀ (ks : List κ) (xs : List D), (replD k d ks xs).length = xs.length
  | [], xs => by cases xs <;> rfl
  | a :: ks, [] => rfl
  | a :: ks, x :: xs => by simp [replD, replD_len k d ks xs]
theorem putD_len {κ : Type} [DecidableEq κ] {ks : List κ} {xs : List D} {k : κ} {d : D} (hl : ks.length = xs.length) : (putD ks xs k d).1.length = (putD ks xs k d).2.length ∧ (putD ks xs k d).1.length ≤ ks.length + 1 := by
  unfold putD
  split
  · exact ⟨by simp [replD_len, hl], by simp⟩
  · exact ⟨by simp [hl], by simp⟩
/-! what a call swaps -/
/-- the state of a dict of swaps -/
abbrev Sw := List (Int ⊕ Str) × List D
def swPut (s : Sw) (x y : Nat) : Sw := putD s.1 s.2 (.inl (x : Int)) (nD y)
def swTouch (tc : List Pl) (s : Sw) (c : Nat) : Sw := let t := tc.getD c (0, 0); swPut (swPut s t.1 t.2) t.2 t.1
structure SwOk (s : Sw) (n : Nat) : Prop where
  len : s.1.length = s.2.length
  le : s.1.length ≤ n
theorem SwOk.put {s : Sw} {n x y : Nat} (o : SwOk s n) : SwOk (swPut s x y) (n + 1) := ⟨(putD_len o.len).1, by have := (putD_len (k := (.inl (x : Int) : Int ⊕ Str)) (d := nD y) o.len).2; have := o.le; show (putD s.1 s.2 _ _).1.length ≤ _; omega⟩
section
variable {h : Cells} {rs : List Nat} {ts : List (Pl × Pl)}
theorem set_sw {s : Sw} {n : Nat} (o : SwOk s n) (hn : n < 1000000) (x y : Nat) : setD h.length (.ref h.length) (nD x) (nD y) (h ++ [(true, .dK s.1 s.2)]) = .ok .non (h ++ [(true, .dK (swPut s x y).1 (swPut s x y).2)]) := by
  have e : s.1.length < 1000000 := by have := o.le; omega
  simp [setD, nD, keyOf, get_last, set_last, e, big, okW, swPut]
theorem sw_loop (tc : List Pl) (d0 d1 : D) (c : List Nat) (hc : ∀ k ∈ c, k < tc.length) (hl : c.length ≤ 60) :
    forGo [4, 5, 6] (G_name 4) (S_cons (S_asg (E_idx (E_var 3) (E_var 4)) (G_tup 2 (GS_cons (G_name 5) (GS_cons (G_name 6) GS_nil))))
 (S_cons (S_asg (E_var 6) (G_sub (E_var 2) (E_var 5)))
 (S_cons (S_asg (E_var 5) (G_sub (E_var 2) (E_var 6)))
 S_nil))) (c.map nD) ⟨h.length, [some d0, some d1, some (.ref h.length), some (.lst (tc.map plD)), none, none, none, none]⟩ (h ++ [(true, .dK [] [])])
  = .ok (.nx ⟨h.length, [some d0, some d1, some (.ref h.length), some (.lst (tc.map plD)), none, none, none, none]⟩) (h ++ [(true, .dK (c.foldl (swTouch tc) ([], [])).1 (c.foldl (swTouch tc) ([], [])).2)]) := by
  refine forGo_fold (M := fun (_ : Sw) => ⟨h.length, [some d0, some d1, some (.ref h.length), some (.lst (tc.map plD)), none, none, none, none]⟩) (C := fun s => h ++ [(true, .dK s.1 s.2)]) (f := swTouch tc)
    (fun s l => ∃ n, SwOk s n ∧ n + 2 * l.length ≤ 200 ∧ ∀ k ∈ l, k < tc.length) ?_ ?_ c ([], []) ⟨0, ⟨rfl, Nat.le_refl _⟩, by omega, hc⟩
  · rintro s a l ⟨n, o, h1, h2⟩
    exact ⟨n + 2, o.put.put, by simp at h1; omega, fun k m => h2 k (List.mem_cons_of_mem _ m)⟩
  · rintro s a l ⟨n, o, h1, h2⟩
    have ha := h2 a List.mem_cons_self
    have h3 : n + 2 ≤ 200 := by simp at h1; omega
    let t := tc.getD a (0, 0)
    have e : idxD (h ++ [(true, .dK s.1 s.2)]) (.lst (tc.map plD)) (nD a) = some (plD t) := by
      show L2.atI (tc.map plD) (a : Int) = _
      refine L2.atI_nat ?_
      rw [List.getElem?_map, List.getElem?_eq_getElem ha]
      simp [t, List.getD_eq_getElem?_getD, List.getElem?_eq_getElem ha]
    have e1 := set_sw (h := h) o (by omega) t.1 t.2
    have e2 := set_sw (h := h) (o.put (x := t.1) (y := t.2)) (by omega) t.2 t.1
    have ep : plD t = .tup [nD t.1, nD t.2] := rfl
    refine ⟨_, _, ⟨h.length, [some d0, some d1, some (.ref h.length), some (.lst (tc.map plD)), some (nD a), some (nD t.1), some (nD t.2), none]⟩, rfl, ?_, by simp⟩
    simp [e, ep, e1, e2]
    exact ⟨rfl, rfl⟩
end
end K78

namespace K78
open PySem Mi
/-! a call's map -/
def gTouch (tc : List Pl) (g : Nat → Option Nat) (k : Nat) : Nat → Option Nat := fun x => if x = (tc.getD k (0, 0)).2 then some (tc.getD k (0, 0)).1 else if x = (tc.getD k (0, 0)).1 then some (tc.getD k (0, 0)).2 else g x
def swF (tc : List Pl) (c : List Nat) : Nat → Option Nat := c.foldl (gTouch tc) fun _ => none
def seatsT (rs : List Nat) (ts : List (Pl × Pl)) : List Pl := ts.map fun t => (seat rs t.1, seat rs t.2)
def callL (rs : List Nat) (ts : List (Pl × Pl)) (c : List Nat) : List Nat := (pls 0 rs).map fun p => (swF (seatsT rs ts) c (seat rs (beh rs p 1))).getD (seat rs (beh rs p 1))
theorem inl_nat (x y : Nat) : ((.inl (x : Int) : Int ⊕ Str) = .inl (y : Int)) = (x = y) := by
  rw [Sum.inl.injEq, eq_iff_iff]; omega
theorem swPut_look {s : Sw} (hl : s.1.length = s.2.length) (x y z : Nat) : lookD (swPut s x y).1 (swPut s x y).2 (.inl (z : Int)) = if z = x then some (nD y) else lookD s.1 s.2 (.inl (z : Int)) := by
  unfold swPut
  rw [lookD_put hl]
  by_cases c : z = x
  · subst c; simp
  · rw [if_neg c, if_neg]
    rw [inl_nat]
    exact fun e => c e.symm
theorem sw_look (tc : List Pl) : ∀ (c : List Nat) (s : Sw) (n : Nat) (g : Nat → Option Nat), SwOk s n → (∀ x : Nat, lookD s.1 s.2 (.inl (x : Int)) = (g x).map nD) →
    (∃ m, SwOk (c.foldl (swTouch tc) s) m) ∧ ∀ x : Nat, lookD (c.foldl (swTouch tc) s).1 (c.foldl (swTouch tc) s).2 (.inl (x : Int)) = ((c.foldl (gTouch tc) g) x).map nD
  | [], s, n, g, o, e => ⟨⟨n, o⟩, e⟩
  | k :: c, s, n, g, o, e => by
    refine sw_look tc c (swTouch tc s k) (n + 2) (gTouch tc g k) o.put.put fun x => ?_
    have l2 := (o.put (x := (tc.getD k (0, 0)).1) (y := (tc.getD k (0, 0)).2)).len
    show lookD (swPut (swPut s _ _) _ _).1 (swPut (swPut s _ _) _ _).2 _ = _
    rw [swPut_look l2, swPut_look o.len, e x]
    unfold gTouch
    split
    · rfl
    · split
      · rfl
      · rfl
section
variable {h : Cells} {rs : List Nat} {ts : List (Pl × Pl)}
theorem mkFn_rt {p n : Nat} {body : MS} {ds : List D} {d : D} {h' : Cells} (hl : ds.length = p) (b : body ⟨h.length, argsL n ds⟩ h = .ok (.rt d) h') (r : refsLt h.length d = true) (t : h'.take h.length = h) : mkFn p n body ds h = .ok d h := by
  unfold mkFn
  rw [if_pos hl, b]
  simp only [r, t, if_true]
theorem seqF_tD (c : List Nat) : seqF (tD c) = some (c.map nD) := rfl
theorem seqF_lD (c : List Nat) : seqF (lD c) = some (c.map nD) := rfl
theorem call_map (o : OkF rs ts) (c : List Nat) (hc : ∀ k ∈ c, k < ts.length) (hl : c.length ≤ 60) : f_call_map [flD rs ts, tD c] h = .ok (lD (callL rs ts c)) h := by
  have lp := pls_len 0 rs
  have sm := o.sm
  have tl : (ts.map fun t => plD (seat rs t.1, seat rs t.2)) = (seatsT rs ts).map plD := by simp [seatsT, Function.comp_def]
  have key := sw_loop (h := h) (seatsT rs ts) (flD rs ts) (tD c) c (fun k m => by simpa [seatsT] using hc k m) hl
  obtain ⟨_, lk⟩ := sw_look (seatsT rs ts) c ([], []) 0 (fun _ => none) ⟨rfl, Nat.le_refl _⟩ (fun x => rfl)
  generalize hs : c.foldl (swTouch (seatsT rs ts)) ([], []) = s at key lk
  have st := seat_touches (h := h ++ [(true, .dK [] [])]) o
  rw [tl] at st
  have ss := step_seats (h := h ++ [(true, .dK s.1 s.2)]) o.sm 1
  refine mkFn_rt (h' := h ++ [(true, .dK s.1 s.2)]) rfl ?_ (refs_lD _ _) (take_last _ _)
  have q : argsL 8 [flD rs ts, tD c] = [some (flD rs ts), some (tD c), none, none, none, none, none, none] := rfl
  rw [q]
  unfold b_f_call_map
  have lc : lcGo (G_name 7) T_yes (E_get2 (E_var 2) (E_var 7) (E_var 7)) ⟨h.length, [some (flD rs ts), some (tD c), some (.ref h.length), some (.lst ((seatsT rs ts).map plD)), none, none, none, none]⟩ ((pls 0 rs).map fun p => nD (seat rs (beh rs p 1))) [] (h ++ [(true, .dK s.1 s.2)]) = .ok ((callL rs ts c).map nD) (h ++ [(true, .dK s.1 s.2)]) := by
    rw [lcGo_mapι (φ := fun p => nD ((swF (seatsT rs ts) c (seat rs (beh rs p 1))).getD (seat rs (beh rs p 1)))) (fun p hp => ⟨_, rfl, rfl, by
      have e := lk (seat rs (beh rs p 1))
      unfold swF
      simp only [E_get2, E_var_ap, set_ap, List.getElem?_cons_succ, List.getElem?_cons_zero, List.set_cons_succ, List.set_cons_zero, Res.bind_ok]
      have d1 : dictOf (h ++ [(true, .dK s.1 s.2)]) (.ref h.length) = some (.dK s.1 s.2) := by simp [dictOf]
      rw [d1]
      simp only [Option.isSome_some, if_true, dgetD, keyOf, nD, Option.map_some]
      rw [e]
      cases (c.foldl (gTouch (seatsT rs ts)) fun _ => none) (seat rs (beh rs p 1)) <;> rfl⟩) (by simp [big]; omega)]
    simp [callL, Function.comp_def]
  have i0 : ∀ h, idxD h (flD rs ts) (.int 0) = some (rgsD rs) := fun h => by simp [idxD, dictOf, seqOf, flD]
  have ss' : f_step_seats [rgsD rs, .int 1] (h ++ [(true, .dK s.1 s.2)]) = _ := ss
  simp [E_dK0, st, big, seqF_tD, key, i0, ss', lc]
  rfl
end
end K78

namespace K78
open PySem Mi
/-! places and seats, maps of seats: plain lists -/
theorem ext_getD {a b : List Nat} (hl : a.length = b.length) (h : ∀ s, s < a.length → a.getD s 0 = b.getD s 0) : a = b := by
  refine List.ext_getElem hl fun i h1 h2 => ?_
  have := h i h1
  rwa [List.getD_eq_getElem?_getD, List.getD_eq_getElem?_getD, List.getElem?_eq_getElem h1, List.getElem?_eq_getElem h2] at this
theorem getD_map {α : Type} {f : α → Nat} {l : List α} {s : Nat} {a : α} (e : l[s]? = some a) : (l.map f).getD s 0 = f a := by
  rw [List.getD_eq_getElem?_getD, List.getElem?_map, e]; rfl
theorem getD_range {n s : Nat} (h : s < n) : (List.range n).getD s 0 = s := by
  rw [List.getD_eq_getElem?_getD, List.getElem?_range h]; rfl
theorem getD_fol {a b : List Nat} {s : Nat} (hs : s < a.length) : (fol a b).getD s 0 = b.getD (a.getD s 0) 0 := by
  have e : a[s]? = some (a.getD s 0) := by rw [List.getD_eq_getElem?_getD, List.getElem?_eq_getElem hs]; rfl
  exact getD_map e
theorem getD_inj {a : List Nat} (hn : a.Nodup) {i j : Nat} (hi : i < a.length) (hj : j < a.length) (e : a.getD i 0 = a.getD j 0) : i = j := by
  rw [List.getD_eq_getElem?_getD, List.getD_eq_getElem?_getD, List.getElem?_eq_getElem hi, List.getElem?_eq_getElem hj] at e
  exact (List.getElem_inj hn).mp e
structure Pm (n : Nat) (a : List Nat) : Prop where
  mp : Mp n a
  nd : a.Nodup
theorem Pm.range (n : Nat) : Pm n (List.range n) := ⟨Mp.range n, List.nodup_range⟩
theorem Pm.fol {n : Nat} {a b : List Nat} (ha : Pm n a) (hb : Pm n b) : Pm n (K78.fol a b) := by
  refine ⟨ha.mp.fol hb.mp, ?_⟩
  unfold K78.fol
  rw [List.Nodup, List.pairwise_map]
  refine ha.nd.imp_of_mem fun {x y} hx hy hne e => hne (getD_inj hb.nd ?_ ?_ e)
  · rw [hb.mp.len]; exact ha.mp.lt _ hx
  · rw [hb.mp.len]; exact ha.mp.lt _ hy
theorem Pm.pw {n : Nat} (k : Nat) : ∀ {f s : List Nat}, Pm n f → Pm n s → Pm n (K78.pw k f s) := by
  induction k using Nat.strongRecOn with
  | _ k ih =>
    intro f s hf hs
    rw [K78.pw]
    split
    · exact hf
    · refine ih (k / 2) (by omega) ?_ (hs.fol hs)
      split
      · exact hf.fol hs
      · exact hf
theorem fol_range {n : Nat} {a : List Nat} (ha : Mp n a) : fol a (List.range n) = a := by
  refine ext_getD (by simp [fol]) fun s hs => ?_
  have hs' : s < a.length := by simpa [fol] using hs
  rw [getD_fol hs']
  exact getD_range (ha.lt _ (getD_mem hs'))
theorem range_fol {n : Nat} {b : List Nat} (hb : b.length = n) : fol (List.range n) b = b := by
  refine ext_getD (by simp [fol, hb]) fun s hs => ?_
  have hs' : s < (List.range n).length := by simpa [fol] using hs
  rw [getD_fol hs', getD_range (by simpa using hs')]
theorem fol_assoc {n : Nat} {a b c : List Nat} (ha : Mp n a) (hb : Mp n b) : fol (fol a b) c = fol a (fol b c) := by
  refine ext_getD (by simp [fol]) fun s hs => ?_
  have hs1 : s < (fol a b).length := by simpa [fol] using hs
  have hs2 : s < a.length := by simpa [fol] using hs
  rw [getD_fol hs1, getD_fol hs2, getD_fol hs2, getD_fol (by rw [hb.len]; exact ha.lt _ (getD_mem hs2))]
/-! places -/
theorem okPl_iff {rs : List Nat} {p : Pl} : okPl rs p = true ↔ p ∈ pls 0 rs := by
  have go : ∀ (u : Nat) (rs : List Nat) (p : Pl), p ∈ pls u rs ↔ u ≤ p.1 ∧ ∃ n, rs[p.1 - u]? = some n ∧ p.2 < n := by
    intro u rs
    induction rs generalizing u with
    | nil => intro p; simp [pls]
    | cons r rs ih =>
      intro p
      obtain ⟨p1, p2⟩ := p
      rw [pls, List.mem_append, ih, List.mem_map]
      constructor
      · rintro (⟨i, hi, e⟩ | ⟨h1, n, h2, h3⟩)
        · simp at e hi
          obtain ⟨rfl, rfl⟩ := e
          exact ⟨Nat.le_refl _, r, by simp, hi⟩
        · refine ⟨by simp at h1 ⊢; omega, n, ?_, h3⟩
          have : p1 - u = (p1 - (u + 1)) + 1 := by simp at h1; omega
          simp only [this, List.getElem?_cons_succ]
          exact h2
      · rintro ⟨h1, n, h2, h3⟩
        simp at h1 h2 h3
        by_cases c : p1 = u
        · subst c
          simp at h2
          exact .inl ⟨p2, by simp; omega, rfl⟩
        · refine .inr ⟨by simp; omega, n, ?_, h3⟩
          have : p1 - u = (p1 - (u + 1)) + 1 := by omega
          rw [this, List.getElem?_cons_succ] at h2
          exact h2
  rw [go]
  unfold okPl
  simp only [Nat.zero_le, true_and, Nat.sub_zero]
  split
  · rename_i n e
    rw [e]
    simp
  · rename_i e
    rw [e]
    simp
theorem pls_at : ∀ {u : Nat} {rs : List Nat} {p : Pl}, p ∈ pls u rs → (pls u rs)[seat rs (p.1 - u, p.2)]? = some p := by
  intro u rs
  induction rs generalizing u with
  | nil => intro p m; cases m
  | cons r rs ih =>
    intro p m
    obtain ⟨p1, p2⟩ := p
    rw [pls, List.mem_append, List.mem_map] at m
    rcases m with ⟨i, hi, e⟩ | m
    · simp at e hi
      obtain ⟨rfl, rfl⟩ := e
      simp only [seat, pls, Nat.sub_self, List.take_zero, List.sum_nil, Nat.zero_add]
      rw [List.getElem?_append_left (by simpa using hi), List.getElem?_map, List.getElem?_range hi]
      rfl
    · have hm := mem_pls m
      obtain ⟨j, n, e1, e2, e3⟩ := hm
      have i := ih m
      simp at e1
      have q : p1 - u = (p1 - (u + 1)) + 1 := by omega
      simp only [seat, pls, q, List.take_succ_cons, List.sum_cons] at i ⊢
      rw [List.getElem?_append_right (by simp; omega)]
      rw [← i]
      congr 1
      simp; omega
theorem seat_at {rs : List Nat} {p : Pl} (m : p ∈ pls 0 rs) : (pls 0 rs)[seat rs p]? = some p := pls_at m
theorem seat_lt {rs : List Nat} {p : Pl} (m : p ∈ pls 0 rs) : seat rs p < rs.sum := by
  have := (List.getElem?_eq_some_iff.mp (seat_at m)).1
  rwa [pls_len] at this
theorem seat_inj {rs : List Nat} {p q : Pl} (mp : p ∈ pls 0 rs) (mq : q ∈ pls 0 rs) (e : seat rs p = seat rs q) : p = q := by
  have a := seat_at mp
  have b := seat_at mq
  rw [e, b] at a
  exact (Option.some.inj a).symm
theorem pls_nodup : ∀ (u : Nat) (rs : List Nat), (pls u rs).Nodup
  | _, [] => List.nodup_nil
  | u, r :: rs => by
    rw [pls, List.nodup_append]
    refine ⟨?_, pls_nodup (u + 1) rs, ?_⟩
    · rw [List.Nodup, List.pairwise_map]
      exact List.nodup_range.imp fun {a b} h e => h (Prod.mk.inj e).2
    · intro a ha b hb e
      obtain ⟨i, _, rfl⟩ := List.mem_map.mp ha
      obtain ⟨j, n, e1, _⟩ := mem_pls hb
      rw [← e] at e1
      simp at e1; omega
/-- maps of places as maps of seats -/
def LF (rs : List Nat) (F : Pl → Pl) : List Nat := (pls 0 rs).map fun p => seat rs (F p)
theorem at_seat {rs : List Nat} {s : Nat} {p : Pl} (e : (pls 0 rs)[s]? = some p) : seat rs p = s := by
  have m : p ∈ pls 0 rs := List.mem_of_getElem? e
  have a := seat_at m
  have h1 := (List.getElem?_eq_some_iff.mp a)
  have h2 := (List.getElem?_eq_some_iff.mp e)
  exact (List.getElem_inj (pls_nodup 0 rs)).mp (h1.2.trans h2.2.symm)
theorem LF_id (rs : List Nat) : LF rs id = List.range rs.sum := by
  refine ext_getD (by simp [LF, pls_len]) fun s hs => ?_
  have hs1 : s < (pls 0 rs).length := by simpa [LF] using hs
  have e : (pls 0 rs)[s]? = some (pls 0 rs)[s] := List.getElem?_eq_getElem hs1
  rw [LF, getD_map e, getD_range (by rwa [pls_len] at hs1)]
  exact at_seat e
theorem LF_congr {rs : List Nat} {F G : Pl → Pl} (h : ∀ p ∈ pls 0 rs, F p = G p) : LF rs F = LF rs G := by
  unfold LF
  exact List.map_congr_left fun p hp => by rw [h p hp]
theorem LF_fol {rs : List Nat} {F G : Pl → Pl} (hF : ∀ p ∈ pls 0 rs, F p ∈ pls 0 rs) : fol (LF rs F) (LF rs G) = LF rs fun p => G (F p) := by
  unfold fol LF
  rw [List.map_map]
  refine List.map_congr_left fun p hp => ?_
  exact getD_map (seat_at (hF p hp))
theorem LF_pm {rs : List Nat} {F : Pl → Pl} (hF : ∀ p ∈ pls 0 rs, F p ∈ pls 0 rs) (hi : ∀ p ∈ pls 0 rs, ∀ q ∈ pls 0 rs, F p = F q → p = q) : Pm rs.sum (LF rs F) := by
  refine ⟨⟨by simp [LF, pls_len], fun s m => ?_⟩, ?_⟩
  · obtain ⟨p, hp, rfl⟩ := List.mem_map.mp m
    exact seat_lt (hF p hp)
  · unfold LF
    rw [List.Nodup, List.pairwise_map]
    refine (pls_nodup 0 rs).imp_of_mem fun {p q} hp hq hne e => hne (hi p hp q hq (seat_inj (hF p hp) (hF q hq) e))
theorem beh_mem {rs : List Nat} {p : Pl} (m : p ∈ pls 0 rs) (k : Nat) : beh rs p k ∈ pls 0 rs := by
  obtain ⟨n, e1, e2⟩ := pl_of_mem m
  rw [← okPl_iff]
  unfold okPl beh
  simp only [e1, Option.getD_some]
  exact decide_eq_true (Nat.mod_lt _ (by omega))
theorem beh_add {rs : List Nat} (p : Pl) (j k : Nat) : beh rs (beh rs p j) k = beh rs p (j + k) := by
  unfold beh
  simp [Nat.add_assoc]
theorem mod_cancel {n p q k : Nat} (hp : p < n) (hq : q < n) (e : (p + k) % n = (q + k) % n) : p = q := by
  have a := Nat.div_add_mod (p + k) n
  have b := Nat.div_add_mod (q + k) n
  rw [e] at a
  generalize (p + k) / n = x at a
  generalize (q + k) / n = y at b
  generalize (q + k) % n = r at a b
  rcases Nat.lt_trichotomy x y with c | c | c
  · have h := Nat.mul_le_mul_left n (show x + 1 ≤ y from c)
    rw [Nat.mul_add, Nat.mul_one] at h
    omega
  · subst c; omega
  · have h := Nat.mul_le_mul_left n (show y + 1 ≤ x from c)
    rw [Nat.mul_add, Nat.mul_one] at h
    omega
theorem beh_inj {rs : List Nat} {p q : Pl} (mp : p ∈ pls 0 rs) (mq : q ∈ pls 0 rs) (k : Nat) (e : beh rs p k = beh rs q k) : p = q := by
  obtain ⟨p1, p2⟩ := p
  obtain ⟨q1, q2⟩ := q
  obtain ⟨n, e1, e2⟩ := pl_of_mem mp
  obtain ⟨n', f1, f2⟩ := pl_of_mem mq
  unfold beh at e
  simp at e e1 e2 f1 f2
  obtain ⟨rfl, e⟩ := e
  rw [e1] at f1
  cases f1
  rw [e1] at e
  simp at e
  have h1 : (p2 + k) % n = (q2 + k) % n := e
  have : p2 = q2 := mod_cancel e2 f2 h1
  rw [this]
def skP (rs : List Nat) (u r : Nat) (p : Pl) : Pl := if p.1 = u then beh rs p r else p
theorem skP_mem {rs : List Nat} {u r : Nat} {p : Pl} (m : p ∈ pls 0 rs) : skP rs u r p ∈ pls 0 rs := by
  unfold skP
  split
  · exact beh_mem m r
  · exact m
theorem skP_fst {rs : List Nat} {u r : Nat} {p : Pl} : (skP rs u r p).1 = p.1 := by
  unfold skP
  split <;> rfl
theorem skipL_LF (rs : List Nat) (u r : Nat) : skipL rs u r = LF rs (skP rs u r) := by
  unfold skipL LF
  refine List.ext_getElem (by simp) fun i h1 h2 => ?_
  simp only [List.getElem_map, List.getElem_zipIdx, Nat.zero_add]
  have e := at_seat (rs := rs) (s := i) (List.getElem?_eq_getElem (by simpa using h1))
  unfold skP
  split
  · rfl
  · exact e.symm
theorem skipL_pm (rs : List Nat) (u r : Nat) : Pm rs.sum (skipL rs u r) := by
  rw [skipL_LF]
  refine LF_pm (fun p m => skP_mem m) fun p hp q hq e => ?_
  have e1 := congrArg Prod.fst e
  rw [skP_fst, skP_fst] at e1
  unfold skP at e
  rw [e1] at e
  split at e
  · exact beh_inj hp hq r e
  · exact e
theorem skip_skip (rs : List Nat) (u a b : Nat) : fol (skipL rs u a) (skipL rs u b) = skipL rs u (a + b) := by
  rw [skipL_LF, skipL_LF, skipL_LF, LF_fol fun p m => skP_mem m]
  refine LF_congr fun p m => ?_
  unfold skP
  by_cases c : p.1 = u
  · simp only [c, if_true]
    rw [if_pos (by simp [beh, c]), beh_add]
  · simp [c]
theorem skip_comm (rs : List Nat) (u v a b : Nat) : fol (skipL rs u a) (skipL rs v b) = fol (skipL rs v b) (skipL rs u a) := by
  by_cases c : u = v
  · subst c
    rw [skip_skip, skip_skip, Nat.add_comm]
  · rw [skipL_LF, skipL_LF, LF_fol fun p m => skP_mem m, LF_fol fun p m => skP_mem m]
    refine LF_congr fun p m => ?_
    unfold skP
    by_cases c1 : p.1 = u
    · have c2 : ¬ p.1 = v := fun e => c (c1.symm.trans e)
      have c3 : ¬ u = v := c
      simp [c1, c2, beh, c3]
    · by_cases c2 : p.1 = v
      · have c3 : ¬ v = u := fun e => c e.symm
        simp [c1, c2, beh, c3]
      · simp [c1, c2]
theorem skip_pw (rs : List Nat) (u : Nat) (k : Nat) : ∀ a r, pw k (skipL rs u a) (skipL rs u r) = skipL rs u (a + r * k) := by
  induction k using Nat.strongRecOn with
  | _ k ih =>
    intro a r
    rw [pw]
    split
    · rename_i e; subst e; rfl
    · rename_i e
      rw [skip_skip rs u r r]
      split
      · rename_i o
        rw [skip_skip, ih (k / 2) (by omega)]
        congr 1
        have : k = 2 * (k / 2) + 1 := by omega
        generalize k / 2 = m at this
        subst this
        rw [Nat.mul_add, Nat.mul_one, ← Nat.mul_assoc, show r * 2 = r + r by omega]
        omega
      · rename_i o
        rw [ih (k / 2) (by omega)]
        congr 1
        have : k = 2 * (k / 2) := by omega
        generalize k / 2 = m at this
        subst this
        rw [← Nat.mul_assoc, show r * 2 = r + r by omega]
theorem skip_zero (rs : List Nat) (u n q : Nat) (hn : rs[u]? = some n) : skipL rs u (n * q) = List.range rs.sum := by
  rw [skipL_LF, ← LF_id]
  refine LF_congr fun p m => ?_
  obtain ⟨n', e1, e2⟩ := pl_of_mem m
  unfold skP
  split
  · rename_i c
    rw [c, hn] at e1
    cases e1
    obtain ⟨p1, p2⟩ := p
    simp at c e2
    subst c
    simp [beh, hn, Nat.mod_eq_of_lt e2]
  · rfl
theorem skip_round (rs : List Nat) (u n r : Nat) (hn : rs[u]? = some n) : pw (n / Nat.gcd n r) (List.range rs.sum) (skipL rs u r) = List.range rs.sum := by
  have h0 := skip_zero rs u n 0 hn
  rw [← h0, skip_pw, Nat.mul_zero, Nat.zero_add, ← Nat.mul_zero n, h0]
  have : r * (n / Nat.gcd n r) = n * (r / Nat.gcd n r) := by
    obtain ⟨a, ha⟩ := Nat.gcd_dvd_left n r
    obtain ⟨b, hb⟩ := Nat.gcd_dvd_right n r
    by_cases g : Nat.gcd n r = 0
    · simp [g]
    · have g' : 0 < Nat.gcd n r := by omega
      have e1 : n / Nat.gcd n r = a := by
        conv => lhs; lhs; rw [ha]
        exact Nat.mul_div_cancel_left _ g'
      have e2 : r / Nat.gcd n r = b := by
        conv => lhs; lhs; rw [hb]
        exact Nat.mul_div_cancel_left _ g'
      rw [e1, e2]
      conv => lhs; rw [hb]
      conv => rhs; rw [ha]
      rw [Nat.mul_assoc, Nat.mul_assoc, Nat.mul_comm b a]
  rw [this, skip_zero rs u n _ hn]
end K78

/-! Mi21: loops told by one equation for a turn; more evaluation lemmas. -/
namespace Mi
open PySem PySem.Spec PyProof.Rows L2
/-- a loop as a fold: a turn leads the state s to f s a -/
theorem forGo_k {α σ : Type} {vs : List Nat} {g : MG} {b : MS} (ι : α → D) (M : σ → Loc) (C : σ → Cells) (f : σ → α → σ) (ok : σ → List α → Prop)
    (step : ∀ s a l, ok s (a :: l) → ok (f s a) l ∧ ∀ k, ((g (ι a) (M s) (C s)).bind fun m1 h1 => turnK vs (b m1 h1) k) = k (M (f s a)) (C (f s a))) :
    ∀ (l : List α) (s : σ), ok s l → forGo vs g b (l.map ι) (M s) (C s) = .ok (.nx (M (l.foldl f s))) (C (l.foldl f s))
  | [], s, _ => rfl
  | a :: l, s, i => by
    obtain ⟨o, e⟩ := step s a l i
    rw [List.map_cons, forGo_cons, e]
    exact forGo_k ι M C f ok step l (f s a) o
/-- the same where the next state is only known to be there -/
theorem forGo_ex {α σ : Type} {vs : List Nat} {g : MG} {b : MS} (ι : α → D) (M : σ → Loc) (C : σ → Cells) (ok : σ → List α → Prop)
    (step : ∀ s a l, ok s (a :: l) → ∃ s', ok s' l ∧ ∀ k, ((g (ι a) (M s) (C s)).bind fun m1 h1 => turnK vs (b m1 h1) k) = k (M s') (C s')) :
    ∀ (l : List α) (s : σ), ok s l → ∃ s', ok s' [] ∧ forGo vs g b (l.map ι) (M s) (C s) = .ok (.nx (M s')) (C s')
  | [], s, i => ⟨s, i, rfl⟩
  | a :: l, s, i => by
    obtain ⟨s1, o, e⟩ := step s a l i
    obtain ⟨s2, o2, e2⟩ := forGo_ex ι M C ok step l s1 o
    exact ⟨s2, o2, by rw [List.map_cons, forGo_cons, e, e2]⟩
/-- a turn of a comprehension -/
def lcTurn (g : MG) (c : MT) (e : ME) (m0 : Loc) (d : D) (h : Cells) (K : D → Cells → Res (List D)) (N : Cells → Res (List D)) : Res (List D) :=
  (g d m0 h).bind fun m1 h1 => (c m1 h1).bind fun b h2 => if b = true then (e m1 h2).bind K else N h2
theorem lcGo_cons (g : MG) (c : MT) (e : ME) (m0 : Loc) (d : D) (ds acc : List D) (h : Cells) : lcGo g c e m0 (d :: ds) acc h = lcTurn g c e m0 d h (fun y h3 => if acc.length < big then lcGo g c e m0 ds (acc ++ [y]) h3 else .stuck) (fun h2 => lcGo g c e m0 ds acc h2) := rfl
theorem lcGo_k {α : Type} {g : MG} {c : MT} {e : ME} {m0 : Loc} {h : Cells} (ι : α → D) (φ : α → D) : ∀ (l : List α) (acc : List D), acc.length + l.length ≤ big → (∀ a ∈ l, ∀ K N, lcTurn g c e m0 (ι a) h K N = K (φ a) h) →
    lcGo g c e m0 (l.map ι) acc h = .ok (acc ++ l.map φ) h
  | [], acc, _, _ => by simp [lcGo]
  | a :: l, acc, hl, hy => by
    rw [List.length_cons] at hl
    rw [List.map_cons, lcGo_cons, hy a List.mem_cons_self, if_pos (by omega), lcGo_k ι φ l _ (by rw [List.length_append, List.length_singleton]; omega) (fun x hx => hy x (List.mem_cons_of_mem _ hx))]
    simp
theorem lcGo_kf {α : Type} {g : MG} {c : MT} {e : ME} {m0 : Loc} {h : Cells} (ι : α → D) (p : α → Bool) (φ : α → D) : ∀ (l : List α) (acc : List D), acc.length + l.length ≤ big → (∀ a ∈ l, ∀ K N, lcTurn g c e m0 (ι a) h K N = if p a = true then K (φ a) h else N h) →
    lcGo g c e m0 (l.map ι) acc h = .ok (acc ++ (l.filter p).map φ) h
  | [], acc, _, _ => by simp [lcGo]
  | a :: l, acc, hl, hy => by
    rw [List.length_cons] at hl
    rw [List.map_cons, lcGo_cons, hy a List.mem_cons_self]
    cases q : p a with
    | false =>
      rw [if_neg Bool.false_ne_true, lcGo_kf ι p φ l _ (by omega) (fun x hx => hy x (List.mem_cons_of_mem _ hx)), List.filter_cons_of_neg (by rw [q]; exact Bool.false_ne_true)]
    | true =>
      rw [if_pos rfl, if_pos (by omega), lcGo_kf ι p φ l _ (by rw [List.length_append, List.length_singleton]; omega) (fun x hx => hy x (List.mem_cons_of_mem _ hx)), List.filter_cons_of_pos q]
      simp
/-- a comprehension that draws: the state goes on, what is kept is told by P -/
theorem lcGo_ex {α σ : Type} {g : MG} {c : MT} {e : ME} {m0 : Loc} (ι : α → D) (C : σ → Cells) (ok : σ → Prop) (P : α → D → Prop) : ∀ (l : List α) (acc : List D) (s : σ), acc.length + l.length ≤ big → ok s →
    (∀ a ∈ l, ∀ s, ok s → ∃ s' o, ok s' ∧ (∀ y, o = some y → P a y) ∧ ∀ K N, lcTurn g c e m0 (ι a) (C s) K N = match o with | some y => K y (C s') | none => N (C s')) →
    ∃ s' ys, ok s' ∧ (∃ ls, ls.Sublist l ∧ Paired P ls ys) ∧ lcGo g c e m0 (l.map ι) acc (C s) = .ok (acc ++ ys) (C s')
  | [], acc, s, _, i, _ => ⟨s, [], i, ⟨[], List.Sublist.refl _, .nil⟩, by simp [lcGo]⟩
  | a :: l, acc, s, hl, i, hy => by
    rw [List.length_cons] at hl
    obtain ⟨s1, o, i1, hp, e1⟩ := hy a List.mem_cons_self s i
    rw [List.map_cons, lcGo_cons, e1]
    cases o with
    | none =>
      obtain ⟨s2, ys, i2, ⟨ls, sl, pr⟩, e2⟩ := lcGo_ex ι C ok P l acc s1 (by omega) i1 (fun x hx => hy x (List.mem_cons_of_mem _ hx))
      exact ⟨s2, ys, i2, ⟨ls, sl.cons _, pr⟩, e2⟩
    | some y =>
      obtain ⟨s2, ys, i2, ⟨ls, sl, pr⟩, e2⟩ := lcGo_ex ι C ok P l (acc ++ [y]) s1 (by rw [List.length_append, List.length_singleton]; omega) i1 (fun x hx => hy x (List.mem_cons_of_mem _ hx))
      refine ⟨s2, y :: ys, i2, ⟨a :: ls, sl.cons_cons _, .cons (hp y rfl) pr⟩, ?_⟩
      simp only
      rw [if_pos (by omega), e2]
      simp
/-- a while by states: p tells whether it goes on, f leads to the next state -/
theorem while_k {σ : Type} {vs : List Nat} {c : MT} {b : MS} (M : σ → Loc) (C : σ → Cells) (p : σ → Bool) (f : σ → σ) (ok : σ → Prop) (μ : σ → Nat)
    (step : ∀ s, ok s → (∀ k, ((c (M s) (C s)).bind fun t h1 => if t = true then turnK vs (b (M s) h1) k else .ok (.nx (M s)) h1) = if p s = true then k (M (f s)) (C (f s)) else .ok (.nx (M s)) (C s)) ∧ (p s = true → ok (f s) ∧ μ (f s) < μ s)) :
    ∀ s, ok s → ∃ s', ok s' ∧ p s' = false ∧ (∀ {τ : Type} (R : σ → τ), (∀ s, ok s → p s = true → R (f s) = R s) → R s' = R s) ∧ S_while vs c b (M s) (C s) = .ok (.nx (M s')) (C s') := by
  have go : ∀ n s, μ s ≤ n → ok s → ∃ s', ok s' ∧ p s' = false ∧ (∀ {τ : Type} (R : σ → τ), (∀ s, ok s → p s = true → R (f s) = R s) → R s' = R s) ∧ S_while vs c b (M s) (C s) = .ok (.nx (M s')) (C s') := by
    intro n
    induction n with
    | zero =>
      intro s hn o
      obtain ⟨e, q⟩ := step s o
      cases hp : p s with
      | true => have := (q hp).2; omega
      | false =>
        refine ⟨s, o, hp, fun R _ => rfl, ?_⟩
        rw [S_while_turn, e, hp, if_neg Bool.false_ne_true]
    | succ n ih =>
      intro s hn o
      obtain ⟨e, q⟩ := step s o
      cases hp : p s with
      | true =>
        obtain ⟨o1, l1⟩ := q hp
        obtain ⟨s', o', p', r', e'⟩ := ih (f s) (by omega) o1
        refine ⟨s', o', p', fun R hR => (r' R hR).trans (hR s o hp), ?_⟩
        rw [S_while_turn, e, hp, if_pos rfl, e']
      | false =>
        refine ⟨s, o, hp, fun R _ => rfl, ?_⟩
        rw [S_while_turn, e, hp, if_neg Bool.false_ne_true]
  exact fun s o => go (μ s) s (Nat.le_refl _) o
/-! what a def returns -/
theorem mkFn_rt {h : Cells} {p n : Nat} {body : MS} {ds : List D} {d : D} {h' : Cells} (hl : ds.length = p) (b : body ⟨h.length, argsL n ds⟩ h = .ok (.rt d) h') (r : refsLt h.length d = true) (t : h'.take h.length = h) : mkFn p n body ds h = .ok d h := by
  unfold mkFn
  rw [if_pos hl, b]
  simp only [r, t, if_true]
/-- one that draws: what stood before may be changed -/
theorem mkFn_rt' {h : Cells} {p n : Nat} {body : MS} {ds : List D} {d : D} {h' : Cells} (hl : ds.length = p) (b : body ⟨h.length, argsL n ds⟩ h = .ok (.rt d) h') (r : refsLt h.length d = true) : mkFn p n body ds h = .ok d (h'.take h.length) := by
  unfold mkFn
  rw [if_pos hl, b]
  simp only [r, if_true]
theorem mkFn_nx {h : Cells} {p n : Nat} {body : MS} {ds : List D} {m : Loc} {h' : Cells} (hl : ds.length = p) (b : body ⟨h.length, argsL n ds⟩ h = .ok (.nx m) h') (t : h'.take h.length = h) : mkFn p n body ds h = .ok .non h := by
  unfold mkFn
  rw [if_pos hl, b]
  simp only [t]
/-! values -/
@[simp] theorem big_val : big = 1000000 := rfl
section
variable {h : Cells}
theorem lenF_tup (xs : List D) : lenF [.tup xs] h = .ok (.int xs.length) h := rfl
theorem lenF_lst (xs : List D) : lenF [.lst xs] h = .ok (.int xs.length) h := rfl
theorem idxD_tup (xs : List D) (i : Int) : idxD h (.tup xs) (.int i) = L2.atI xs i := rfl
theorem idxD_lst (xs : List D) (i : Int) : idxD h (.lst xs) (.int i) = L2.atI xs i := rfl
theorem idxD_dK (ks : List Key) (xs : List D) (k : D) : idxD h (.dK ks xs) k = ((keyOf k).map (lookD ks xs)).bind id := rfl
theorem idxD_dT (ks : List (List Key)) (xs ts : List D) : idxD h (.dT ks xs) (.tup ts) = ((keysOf ts).map (lookD ks xs)).bind id := rfl
theorem atI_map {α : Type} {f : α → D} {l : List α} {i : Nat} {a : α} (e : l[i]? = some a) : L2.atI (l.map f) (i : Int) = some (f a) := L2.atI_nat (by rw [List.getElem?_map, e]; rfl)
theorem take_snoc (h : Cells) (c : Bool × D) : (h ++ [c]).take h.length = h := by simp
end
end Mi

namespace K78
open PySem Mi
/-! led: the arrangement behind a map -/
def setZ (L : List (Nat × Nat)) (r : List Nat) : List Nat := L.foldl (fun r x => r.set x.1 x.2) r
theorem setZ_len : ∀ (L : List (Nat × Nat)) (r : List Nat), (setZ L r).length = r.length
  | [], r => rfl
  | x :: L, r => by
    show (setZ L (r.set x.1 x.2)).length = _
    rw [setZ_len L]; simp
theorem setZ_out : ∀ (L : List (Nat × Nat)) (r : List Nat) (t : Nat), (∀ x ∈ L, x.1 ≠ t) → (setZ L r).getD t 0 = r.getD t 0
  | [], r, t, _ => rfl
  | x :: L, r, t, h => by
    show (setZ L (r.set x.1 x.2)).getD t 0 = _
    rw [setZ_out L _ t fun y hy => h y (List.mem_cons_of_mem _ hy)]
    rw [List.getD_eq_getElem?_getD, List.getD_eq_getElem?_getD, List.getElem?_set_ne (h x List.mem_cons_self)]
theorem setZ_in : ∀ (L : List (Nat × Nat)) (r : List Nat), (L.map Prod.fst).Nodup → ∀ x ∈ L, x.1 < r.length → (setZ L r).getD x.1 0 = x.2
  | [], r, _, x, h, _ => by cases h
  | y :: L, r, hn, x, h, hl => by
    rw [List.map_cons, List.nodup_cons] at hn
    show (setZ L (r.set y.1 y.2)).getD x.1 0 = _
    rcases List.mem_cons.mp h with e | e
    · subst e
      rw [setZ_out L _ _ fun z hz e => hn.1 (by rw [← e]; exact List.mem_map_of_mem hz)]
      rw [List.getD_eq_getElem?_getD, List.getElem?_set_self hl]; rfl
    · exact setZ_in L _ hn.2 x e (by simpa using hl)
def ledL (a f : List Nat) : List Nat := setZ (f.zip a) (List.replicate f.length 0)
theorem zip_at {f a : List Nat} {s : Nat} (h1 : s < f.length) (h2 : s < a.length) : (f.getD s 0, a.getD s 0) ∈ f.zip a := by
  have e : (f.zip a)[s]? = some (f.getD s 0, a.getD s 0) := by
    rw [List.getElem?_zip_eq_some]
    rw [List.getD_eq_getElem?_getD, List.getD_eq_getElem?_getD, List.getElem?_eq_getElem h1, List.getElem?_eq_getElem h2]
    exact ⟨rfl, rfl⟩
  exact List.mem_of_getElem? e
theorem map_fst_zip' : ∀ {f a : List Nat}, f.length = a.length → (f.zip a).map Prod.fst = f
  | [], [], _ => rfl
  | [], _ :: _, h => by simp at h
  | _ :: _, [], h => by simp at h
  | x :: f, y :: a, h => by
    rw [List.zip_cons_cons, List.map_cons, map_fst_zip' (by simpa using h)]
theorem led_spec {n : Nat} {a f r : List Nat} (hf : Pm n f) (ha : a.length = n) (hr : r.length = n) : (setZ (f.zip a) r).length = n ∧ ∀ s, s < n → (setZ (f.zip a) r).getD (f.getD s 0) 0 = a.getD s 0 := by
  refine ⟨by rw [setZ_len, hr], fun s hs => ?_⟩
  have h1 : s < f.length := by rw [hf.mp.len]; exact hs
  exact setZ_in (f.zip a) r (by rw [map_fst_zip' (by rw [hf.mp.len, ha])]; exact hf.nd) _ (zip_at h1 (by rw [ha]; exact hs)) (by rw [hr]; exact hf.mp.lt _ (getD_mem h1))
theorem pm_onto {n : Nat} {f : List Nat} (hf : Pm n f) {t : Nat} (ht : t < n) : ∃ s, s < n ∧ f.getD s 0 = t := by
  by_cases m : t ∈ f
  · obtain ⟨s, hs, e⟩ := List.getElem_of_mem m
    exact ⟨s, by rw [← hf.mp.len]; exact hs, by rw [List.getD_eq_getElem?_getD, List.getElem?_eq_getElem hs]; exact e⟩
  · have h1 : (t :: f).Nodup := List.nodup_cons.mpr ⟨m, hf.nd⟩
    have h2 := L2.nat_nodup_len (t :: f) (List.range n) h1 fun x hx => by
      rcases List.mem_cons.mp hx with e | e
      · rw [e]; exact List.mem_range.mpr ht
      · exact List.mem_range.mpr (hf.mp.lt x e)
    rw [List.length_cons, hf.mp.len, List.length_range] at h2
    omega
theorem led_unique {n : Nat} {a f r r' : List Nat} (hf : Pm n f) (h1 : r.length = n) (h2 : r'.length = n) (e1 : ∀ s, s < n → r.getD (f.getD s 0) 0 = a.getD s 0) (e2 : ∀ s, s < n → r'.getD (f.getD s 0) 0 = a.getD s 0) : r = r' := by
  refine ext_getD (by omega) fun t ht => ?_
  obtain ⟨s, hs, e⟩ := pm_onto hf (t := t) (by omega)
  rw [← e, e1 s hs, e2 s hs]
theorem ledL_spec {n : Nat} {a f : List Nat} (hf : Pm n f) (ha : a.length = n) : (ledL a f).length = n ∧ ∀ s, s < n → (ledL a f).getD (f.getD s 0) 0 = a.getD s 0 := led_spec hf ha (by simp [hf.mp.len])
theorem setZ_led {n : Nat} {a f r : List Nat} (hf : Pm n f) (ha : a.length = n) (hr : r.length = n) : setZ (f.zip a) r = ledL a f :=
  led_unique hf (led_spec hf ha hr).1 (ledL_spec hf ha).1 (led_spec hf ha hr).2 (ledL_spec hf ha).2
theorem ledL_pm {n : Nat} {a f : List Nat} (ha : Pm n a) (hf : Pm n f) : Pm n (ledL a f) := by
  obtain ⟨h1, h2⟩ := ledL_spec hf ha.mp.len
  have go : ∀ t, t < n → ∃ s, s < n ∧ f.getD s 0 = t ∧ (ledL a f).getD t 0 = a.getD s 0 := fun t ht => by
    obtain ⟨s, hs, e⟩ := pm_onto hf ht
    exact ⟨s, hs, e, by rw [← e, h2 s hs]⟩
  refine ⟨⟨h1, fun x hx => ?_⟩, ?_⟩
  · obtain ⟨t, ht, e⟩ := List.getElem_of_mem hx
    obtain ⟨s, hs, _, e2⟩ := go t (by omega)
    rw [List.getD_eq_getElem?_getD, List.getElem?_eq_getElem ht] at e2
    simp only [Option.getD_some] at e2
    rw [← e, e2]
    exact ha.mp.lt _ (getD_mem (by rw [ha.mp.len]; exact hs))
  · rw [List.Nodup, List.pairwise_iff_getElem]
    intro i j hi hj hij e
    obtain ⟨s, hs, es, e1⟩ := go i (by omega)
    obtain ⟨s', hs', es', e2⟩ := go j (by omega)
    rw [List.getD_eq_getElem?_getD, List.getElem?_eq_getElem hi] at e1
    rw [List.getD_eq_getElem?_getD, List.getElem?_eq_getElem hj] at e2
    simp only [Option.getD_some] at e1 e2
    have := getD_inj ha.nd (by rw [ha.mp.len]; exact hs) (by rw [ha.mp.len]; exact hs') (by rw [← e1, ← e2, e])
    subst this
    omega
theorem led_led {n : Nat} {a f g : List Nat} (ha : a.length = n) (hf : Pm n f) (hg : Pm n g) : ledL (ledL a f) g = ledL a (fol f g) := by
  obtain ⟨h1, h2⟩ := ledL_spec hf ha
  obtain ⟨h3, h4⟩ := ledL_spec hg h1
  obtain ⟨h5, h6⟩ := ledL_spec (hf.fol hg) ha
  refine led_unique (hf.fol hg) h3 h5 (fun s hs => ?_) h6
  have l : s < f.length := by rw [hf.mp.len]; exact hs
  rw [getD_fol l, h4 _ (hf.mp.lt _ (getD_mem l)), h2 s hs]
theorem led_range {n : Nat} {a : List Nat} (ha : a.length = n) : ledL a (List.range n) = a := by
  obtain ⟨h1, h2⟩ := ledL_spec (Pm.range n) ha
  refine ext_getD (by omega) fun t ht => ?_
  have := h2 t (by omega)
  rwa [getD_range (by omega)] at this
end K78

namespace K78
open PySem Mi
/-! arrangements, calls, skips: the looks -/
section
variable {h : Cells} {rs : List Nat} {ts : List (Pl × Pl)}
theorem der_tD (c : List Nat) : der h (tD c) = tD c := rfl
theorem isa_tD (c : List Nat) : isaD "tuple" (tD c) = some true := rfl
theorem lenF_tD (c : List Nat) : lenF [tD c] h = .ok (.int (c.length : Int)) h := by simp [tD, lenF, seqOf]
theorem lenF_lD (c : List Nat) : lenF [lD c] h = .ok (.int (c.length : Int)) h := by simp [lD, lenF, seqOf]
theorem idx_tD {c : List Nat} {s : Nat} (hs : s < c.length) : idxD h (tD c) (.int (s : Int)) = some (nD (c.getD s 0)) := atI_nD hs
theorem idx_lD {c : List Nat} {s : Nat} (hs : s < c.length) : idxD h (lD c) (.int (s : Int)) = some (nD (c.getD s 0)) := atI_nD hs
theorem seqInts_tD (c : List Nat) : seqInts h (tD c) = some (c.map fun n : Nat => (n : Int)) := by
  simp [seqInts, tD, seqOf, intsOf_nD]
theorem refs_tD (n : Nat) (l : List Nat) : refsLt n (tD l) = true := by
  simp only [tD, refsLt_tup']
  exact refsLts_map (fun s => refs_n _ _) _
theorem sumA_rgs : sumA [rgsD rs] h = .ok (.int (rs.sum : Int)) h := by
  have i1 := intsOf_nD rs
  simp [sumA, rgsD, seqInts, seqOf, i1, sum_cast]
theorem idx_fl0 : idxD h (flD rs ts) (.int 0) = some (rgsD rs) := by simp [idxD, dictOf, seqOf, flD]
theorem idx_fl1 : idxD h (flD rs ts) (.int 1) = some (.tup (ts.map toD)) := by simp [idxD, dictOf, seqOf, flD]
theorem insI_lt {x : Int} : ∀ {l : List Int}, (∀ y ∈ l, x < y) → insI x l = x :: l
  | [], _ => rfl
  | y :: r, h => by
    unfold insI
    rw [if_pos (h y List.mem_cons_self)]
theorem sortDedup_sorted : ∀ {l : List Int}, l.Pairwise (· < ·) → sortDedup l = l
  | [], _ => rfl
  | x :: l, h => by
    obtain ⟨h1, h2⟩ := List.pairwise_cons.mp h
    show insI x (sortDedup l) = _
    rw [sortDedup_sorted h2, insI_lt h1]
theorem insI_len {x : Int} : ∀ {l : List Int}, x ∉ l → (insI x l).length = l.length + 1
  | [], _ => rfl
  | y :: r, h => by
    unfold insI
    split
    · simp
    · split
      · rename_i e; exact absurd (by rw [e]; exact List.mem_cons_self) h
      · simp only [List.length_cons, insI_len fun m => h (List.mem_cons_of_mem _ m)]
theorem sortDedup_nodup : ∀ {l : List Int}, l.Nodup → (sortDedup l).length = l.length
  | [], _ => rfl
  | x :: l, h => by
    obtain ⟨h1, h2⟩ := List.nodup_cons.mp h
    show (insI x (sortDedup l)).length = _
    rw [insI_len (by rw [mem_sortDedup]; exact h1), sortDedup_nodup h2]; rfl
theorem cast_nodup {l : List Nat} (h : l.Nodup) : (l.map fun n : Nat => (n : Int)).Nodup := by
  rw [List.Nodup, List.pairwise_map]
  exact h.imp fun {a b} h e => h (by omega)
theorem is_arrangement {n : Nat} {a : List Nat} (ha : Pm n a) (hn : n ≤ 60) : f_is_arrangement_value [.int (n : Int), tD a] h = .ok (.bl true) h := by
  have l := ha.mp.len
  have e1 : (sortDedup (a.map fun n : Nat => (n : Int))).length = n := by rw [sortDedup_nodup (cast_nodup ha.nd), List.length_map, l]
  simp [f_is_arrangement_value, b_f_is_arrangement_value, mkFn, argsL, der_tD, isa_tD, lenF_tD, l, seqF_tD]
  rw [lcGo_k nD (fun n => D.bl (decide (0 ≤ (n : Int)) && decide ((n : Int) ≤ _ - 1))) a [] (by simp [big]; omega) (fun x hx K N => by simp [lcTurn, nD, is_between_int]; rfl)]
  have lt := ha.mp.lt
  simp [allF, lstOf, bools_map, lenSetI, seqInts_tD, l, e1]
  have c1 : n < 64 := by omega
  have c2 : ∀ x ∈ a, (x : Int) ≤ (n : Int) - 1 := fun x hx => by have := lt x hx; omega
  simp [c1, eq_true c2]
theorem need_arrangement (o : OkF rs ts) {a : List Nat} (ha : Pm rs.sum a) : f_need_arrangement [flD rs ts, tD a] h = .ok .non h := by
  have := is_arrangement (h := h) ha o.sm
  simp [f_need_arrangement, b_f_need_arrangement, mkFn, argsL, need_floor o, idx_fl0, sumA_rgs, this]
theorem zip_zipIdx {f a : List Nat} (hl : f.length = a.length) : f.zip a = f.zipIdx.map fun x => (x.1, a.getD x.2 0) := by
  refine List.ext_getElem (by simp; omega) fun i h1 h2 => ?_
  have h3 : i < a.length := by simp at h1; omega
  simp [List.getD_eq_getElem?_getD, List.getElem?_eq_getElem h3]
theorem mul_rep (z : D) (n : Nat) (hn : n ≤ 1000) : mulD true (.lst [z]) (.int (n : Int)) h = .ok (.ref h.length) (h ++ [(true, .lst (List.replicate n z))]) := by
  have c : 1 * (n : Int).toNat ≤ big ∧ (n : Int) ≤ big ∧ -big ≤ (n : Int) := by
    unfold big
    omega
  unfold mulD
  simp only [lstOf, List.length_singleton]
  rw [if_pos c]
  have : (List.replicate (n : Int).toNat [z]).flatten = List.replicate n z := by
    rw [Int.toNat_natCast]
    clear c hn
    induction n with
    | zero => rfl
    | succ n ih => rw [List.replicate_succ, List.flatten_cons, ih]; rfl
  rw [this]
  rfl
theorem ixN_nat {n s : Nat} (hs : s < n) : L2.ixN n (s : Int) = some s := by
  unfold L2.ixN
  simp
  omega
theorem set_lst {r : List Nat} {s : Nat} (hs : s < r.length) (x : Nat) : setD h.length (.ref h.length) (nD s) (nD x) (h ++ [(true, .lst (r.map nD))]) = .ok .non (h ++ [(true, .lst ((r.set s x).map nD))]) := by
  have e : L2.ixN (r.map nD).length (s : Int) = some s := ixN_nat (by simpa using hs)
  simp at e
  simp [setD, nD, get_last, set_last, e, okW, List.map_set]
theorem arranged {n : Nat} {a f : List Nat} (hf : Pm n f) (ha : a.length = n) (hn : n ≤ 60) : f_arranged [tD a, lD f] h = .ok (tD (ledL a f)) h := by
  have lf := hf.mp.len
  have en : enumD 0 (f.map nD) = f.zipIdx.map fun x => .tup [nD x.2, nD x.1] := enum_map nD 0 f
  refine mkFn_rt (h' := h ++ [(true, .lst ((ledL a f).map nD))]) rfl ?_ (refs_tD _ _) (take_last _ _)
  have q : argsL 5 [tD a, lD f] = [some (tD a), some (lD f), none, none, none] := rfl
  rw [q]
  have m := mul_rep (h := h) (.int 0) n (by omega)
  simp [b_f_arranged, lenF_lD, lf, m, seqF_lD, en]
  have i : List.replicate n (D.int 0) = (List.replicate n 0).map nD := by simp [nD]
  rw [i, forGo_k (fun x : Nat × Nat => .tup [nD x.2, nD x.1]) (fun _ => ⟨h.length, [some (tD a), some (lD f), some (.ref h.length), none, none]⟩) (fun r : List Nat => h ++ [(true, D.lst (r.map nD))]) (fun r x => r.set x.1 (a.getD x.2 0))
    (fun r l => r.length = n ∧ ∀ x ∈ l, x.1 < n ∧ x.2 < n) (fun r x l ok => by
      obtain ⟨hr, hx⟩ := ok
      obtain ⟨x1, x2⟩ := hx x List.mem_cons_self
      refine ⟨⟨by simpa using hr, fun y hy => hx y (List.mem_cons_of_mem _ hy)⟩, fun k => ?_⟩
      have e1 := idx_tD (h := h ++ [(true, .lst (r.map nD))]) (c := a) (s := x.2) (by omega)
      have e2 := set_lst (h := h) (r := r) (s := x.1) (by omega) (a.getD x.2 0)
      have e3 : nD x.2 = .int (x.2 : Int) := rfl
      simp [e3, e1]
      simp at e2
      simp [e2]) f.zipIdx (List.replicate n 0) ⟨by simp, fun x hx => by
        have := List.mem_zipIdx' hx
        have l := this.1
        exact ⟨by rw [this.2]; exact hf.mp.lt _ (List.getElem_mem _), by omega⟩⟩]
  have e : f.zipIdx.foldl (fun r x => r.set x.1 (a.getD x.2 0)) (List.replicate n 0) = ledL a f := by
    unfold ledL setZ
    rw [zip_zipIdx (by omega), List.foldl_map, lf]
  simp only [e]
  simp [tupleF, lstOf, get_last, tD]
end
end K78

namespace K78
open PySem Mi
/-! steps and plans -/
inductive Stp where
  | beat (c : List Nat) | times (k : Nat) (p : List Stp) | skip (j : Nat)
mutual
def stD : Stp → D
  | .beat c => .tup [.str "beat", tD c]
  | .times k p => .tup [.str "times", nD k, .tup (stDs p)]
  | .skip j => .tup [.str "skip", nD j]
def stDs : List Stp → List D
  | [] => []
  | s :: p => stD s :: stDs p
end
def pnD (p : List Stp) : D := .tup (p.map stD)
theorem stDs_map : ∀ p : List Stp, stDs p = p.map stD
  | [] => rfl
  | s :: p => by rw [stDs, stDs_map p]; rfl
theorem stD_beat (c : List Nat) : stD (.beat c) = .tup [.str "beat", tD c] := by rw [stD]
theorem stD_skip (j : Nat) : stD (.skip j) = .tup [.str "skip", nD j] := by rw [stD]
theorem stD_times (k : Nat) (p : List Stp) : stD (.times k p) = .tup [.str "times", nD k, pnD p] := by rw [stD, stDs_map]; rfl
structure OkC (m : Nat) (c : List Nat) : Prop where
  srt : c.Pairwise (· < ·)
  lt : ∀ k ∈ c, k < m
  len : c.length ≤ 60
structure OkK (rs : List Nat) (sk : List Pl) : Prop where
  srt : sk.Pairwise fun a b => plLt a b = true
  u : ∀ s ∈ sk, s.1 < rs.length
  r : ∀ s ∈ sk, 1 ≤ s.2 ∧ s.2 ≤ 1000
  len : sk.length ≤ 60
def skD (sk : List Pl) : D := .tup (sk.map plD)
def OkS (m k : Nat) : Nat → Stp → Prop
  | _, .beat c => OkC m c
  | _, .skip j => j < k
  | 0, .times _ _ => False
  | d + 1, .times j p => j ≤ 2000000 ∧ p.length ≤ 4 ∧ ∀ s ∈ p, OkS m k d s
structure OkP (m k d : Nat) (p : List Stp) : Prop where
  len : p.length ≤ 40
  st : ∀ s ∈ p, OkS m k d s
theorem OkS.up {m k : Nat} : ∀ {d : Nat} {s : Stp} (e : Nat), OkS m k d s → d ≤ e → OkS m k e s
  | d, .beat c, e, h, _ => by rw [OkS] at h ⊢; exact h
  | d, .skip c, e, h, _ => by rw [OkS] at h ⊢; exact h
  | 0, .times _ _, e, h, _ => by rw [OkS] at h; exact h.elim
  | d + 1, .times _ _, 0, h, l => by omega
  | d + 1, .times j p, e + 1, h, l => by
    rw [OkS] at h ⊢
    exact ⟨h.1, h.2.1, fun s hs => (h.2.2 s hs).up e (by omega)⟩
section
variable {h : Cells} {rs : List Nat} {ts : List (Pl × Pl)} {sk : List Pl}
theorem okDs_map' {α : Type} {n : Nat} {f : α → D} : ∀ {l : List α}, (∀ a ∈ l, okD n (f a) = true) → okDs n (l.map f) = true
  | [], _ => rfl
  | a :: l, hf => by simp only [List.map_cons, okDs, hf a List.mem_cons_self, Bool.true_and]; exact okDs_map' fun b hb => hf b (List.mem_cons_of_mem _ hb)
theorem ok_beat : PyData.strOk "beat" = true := by decide +kernel
theorem ok_times : PyData.strOk "times" = true := by decide +kernel
theorem ok_skip : PyData.strOk "skip" = true := by decide +kernel
theorem okD_nD (n m : Nat) : okD n (nD m) = true := by simp [nD, okD]
theorem okD_tD (n : Nat) (l : List Nat) : okD (n + 1) (tD l) = true := by
  simp only [tD, okD, Nat.add_sub_cancel, Bool.and_eq_true]
  exact ⟨by simp, okDs_map (fun a => okD_nD _ a) _⟩
theorem okD_st {m k : Nat} : ∀ {d : Nat} {s : Stp} (n : Nat), OkS m k d s → 2 * d + 2 ≤ n → okD n (stD s) = true
  | d, .beat c, n + 2, h, l => by
    rw [stD_beat]
    simp [okD, okDs, ok_beat, okD_tD]
  | d, .skip c, n + 2, h, l => by
    rw [stD_skip]
    simp [okD, okDs, ok_skip, okD_nD]
  | 0, .times _ _, n, h, l => by rw [OkS] at h; exact h.elim
  | d + 1, .times j p, n + 2, h, l => by
    rw [OkS] at h
    rw [stD_times]
    have e : okDs n (p.map stD) = true := okDs_map' fun s hs => okD_st n (h.2.2 s hs) (by omega)
    simp [okD, okDs, ok_times, okD_nD, pnD, e]
theorem okD_pn {m k d : Nat} {p : List Stp} (o : OkP m k d p) (n : Nat) (hn : 2 * d + 2 ≤ n) : okD (n + 1) (pnD p) = true := by
  simp only [pnD, okD, Nat.add_sub_cancel, Bool.and_eq_true]
  exact ⟨by simp, okDs_map' fun s hs => okD_st n (o.st s hs) hn⟩
theorem eqC_self {d : D} (g : okD 60 d = true) (hd : der h d = d) : eqC h d d = some true := by
  unfold eqC
  rw [hd, if_pos ⟨g, g⟩, eqD_self d g]
theorem allF_true {α : Type} {l : List α} {f : α → D} (hf : ∀ a ∈ l, f a = .bl true) : allF [.lst (l.map f)] h = .ok (.bl true) h := by
  have e : l.map f = l.map fun _ => D.bl true := List.map_congr_left fun a ha => hf a ha
  have := bools_map (fun _ : α => true) l
  rw [e]
  simp [allF, lstOf, this]
theorem idx_pl0 (p : Pl) : idxD h (plD p) (.int 0) = some (nD p.1) := by simp [idxD, dictOf, seqOf, plD]
theorem idx_pl1 (p : Pl) : idxD h (plD p) (.int 1) = some (nD p.2) := by simp [idxD, dictOf, seqOf, plD]
theorem is_call {c : List Nat} (o : OkC ts.length c) : f_is_call [flD rs ts, tD c] h = .ok (.bl true) h := by
  have cl := o.len
  have l : lenF [.tup (ts.map toD)] h = .ok (.int (ts.length : Int)) h := by simp [lenF, seqOf]
  simp [f_is_call, b_f_is_call, mkFn, argsL, der_tD, isa_tD, seqF_tD, idx_fl1, l]
  have lt : ∀ x ∈ c, (x : Int) ≤ (ts.length : Int) - 1 := fun x hx => by have := o.lt x hx; omega
  rw [lcGo_k nD (fun _ => D.bl true) c [] (by simp; omega) (fun x hx K N => by simp [lcTurn, nD, idx_fl1, l, is_between_int, lt x hx])]
  have al := allF_true (h := h) (l := c) (f := fun _ => D.bl true) fun _ _ => rfl
  have e1 : listF false [tD c] h = .ok (.lst (c.map nD)) h := by simp [listF, tD, seqOf]
  have s1 : (c.map fun n : Nat => (n : Int)).Pairwise (· < ·) := by
    rw [List.pairwise_map]
    exact o.srt.imp fun {a b} h => by omega
  have e2 : sortSetI false (tD c) h = .ok (.lst (c.map nD)) h := by
    have c1 : c.length < 64 := by omega
    simp [sortSetI, seqInts_tD, sortDedup_sorted s1, c1, nD_def]
  have e3 : eqC h (.lst (c.map nD)) (.lst (c.map nD)) = some true := eqC_self (okD_tD 59 c) rfl
  simp [al, e1, e2, e3]
theorem is_skip_of {s : Pl} (h1 : s.1 < rs.length) (h2 : 1 ≤ s.2 ∧ s.2 ≤ 1000) : f_is_skip_of [flD rs ts, plD s] h = .ok (.bl true) h := by
  have l : lenF [rgsD rs] h = .ok (.int (rs.length : Int)) h := by simp [lenF, seqOf, rgsD]
  have pr : f_is_pair [plD s] h = .ok (.bl true) h := is_pair_two _ _
  have c1 : (s.1 : Int) ≤ (rs.length : Int) - 1 := by omega
  have c2 : (1 : Int) ≤ (s.2 : Int) := by omega
  have c3 : (s.2 : Int) ≤ 1000 := by omega
  simp [f_is_skip_of, b_f_is_skip_of, mkFn, argsL, pr, idx_fl0, l, idx_pl0, idx_pl1, nD, is_between_int, c1, c2, c3]
theorem cut_from1 (l : List D) : cutD l (some 1) none = l.tail := by
  unfold cutD
  rw [HT.sIx_none, show (some (1 : Int)) = some ((1 : Nat) : Int) from rfl, HT.sIx_nat]
  cases l with
  | nil => rfl
  | cons a l => simp
theorem zipD_map {α : Type} (f : α → D) (a b : List α) : zipD (a.map f) (b.map f) = (a.zip b).map fun x => .tup [f x.1, f x.2] := by
  unfold zipD
  rw [List.zip_map, List.map_map]
  rfl
theorem pairwise_zip {α : Type} {R : α → α → Prop} : ∀ {l : List α}, l.Pairwise R → ∀ x ∈ l.zip l.tail, R x.1 x.2
  | [], _, x, h => by simp at h
  | [a], _, x, h => by simp at h
  | a :: b :: l, hp, x, h => by
    obtain ⟨h1, h2⟩ := List.pairwise_cons.mp hp
    simp only [List.tail_cons, List.zip_cons_cons, List.mem_cons] at h
    rcases h with e | h
    · rw [e]; exact h1 b List.mem_cons_self
    · exact pairwise_zip h2 x (by simpa using h)
theorem are_skips (o : OkK rs sk) : f_are_skips_value [flD rs ts, skD sk] h = .ok (.bl true) h := by
  have cl := o.len
  have d1 : der h (skD sk) = skD sk := rfl
  have d2 : isaD "tuple" (skD sk) = some true := rfl
  have d3 : seqF (skD sk) = some (sk.map plD) := rfl
  simp [f_are_skips_value, b_f_are_skips_value, mkFn, argsL, d1, d2, d3]
  rw [lcGo_k plD (fun _ => D.bl true) sk [] (by simp; omega) (fun x hx K N => by simp [lcTurn, is_skip_of (o.u x hx) (o.r x hx)])]
  have sl : sliceD false (skD sk) (some 1) none h = .ok (.tup (sk.tail.map plD)) h := by
    simp [sliceD, skD, cut_from1, List.map_tail]
  have z : ∀ m : Mi.Loc, m.v[1]? = some (some (skD sk)) → I_zip (A_cons (E_var 1) (A_cons (E_slice false (E_var 1) (O_some (E_c (.int 1))) O_none) A_nil)) m h = .ok ((sk.zip sk.tail).map fun x => .tup [plD x.1, plD x.2]) h := fun m hm => by
    have e : zip2D (skD sk) (.tup (sk.tail.map plD)) = some ((sk.zip sk.tail).map fun x => .tup [plD x.1, plD x.2]) := by
      show some (zipD (sk.map plD) (sk.tail.map plD)) = _
      rw [zipD_map]
    simp [I_zip, hm, sl]
    simp at e
    simp [e]
  have al := allF_true (h := h) (l := sk) (f := fun _ => D.bl true) fun _ _ => rfl
  have al2 := allF_true (h := h) (l := sk.zip sk.tail) (f := fun _ => D.bl true) fun _ _ => rfl
  simp [al, z]
  rw [lcGo_k (fun x : Pl × Pl => .tup [plD x.1, plD x.2]) (fun _ => D.bl true) (sk.zip sk.tail) [] (by simp; omega) (fun x hx K N => by
    have := pairwise_zip o.srt x hx
    simp [lcTurn, ltA_pl, this])]
  simp [al2]
theorem need_skips (o : OkF rs ts) (k : OkK rs sk) : f_need_skips [flD rs ts, skD sk] h = .ok .non h := by
  simp [f_need_skips, b_f_need_skips, mkFn, argsL, need_floor o, are_skips k]
end
end K78

namespace K78
open PySem Mi
mutual
def stN : Stp → Nat
  | .beat _ => 1
  | .times _ p => 1 + plN p
  | .skip _ => 1
def plN : List Stp → Nat
  | [] => 1
  | s :: p => stN s + plN p
end
def isT : Stp → Bool
  | .times _ _ => true
  | _ => false
def subP : Stp → List Stp
  | .times _ p => p
  | _ => []
def subs (p : List Stp) : List (List Stp) := (p.filter isT).map subP
def totN (s : List (List Stp)) : Nat := (s.map plN).sum
theorem plN_pos : ∀ p : List Stp, 1 ≤ plN p
  | [] => by rw [plN]; exact Nat.le_refl _
  | s :: p => by rw [plN]; have := plN_pos p; omega
theorem subs_cons (s : Stp) (p : List Stp) : subs (s :: p) = (if isT s = true then [subP s] else []) ++ subs p := by
  unfold subs
  cases e : isT s <;> simp [e]
theorem totN_app (a b : List (List Stp)) : totN (a ++ b) = totN a + totN b := by simp [totN]
theorem subs_lt : ∀ p : List Stp, totN (subs p) < plN p
  | [] => by simp [subs, totN, plN]
  | s :: p => by
    have ih := subs_lt p
    rw [subs_cons, totN_app, plN]
    cases s with
    | beat c => simp [isT, totN, stN] at ih ⊢; omega
    | skip c => simp [isT, totN, stN] at ih ⊢; omega
    | times k q => simp [isT, subP, totN, stN] at ih ⊢; omega
theorem totN_len : ∀ s : List (List Stp), s.length ≤ totN s
  | [] => Nat.zero_le _
  | p :: s => by
    have := totN_len s
    have := plN_pos p
    simp [totN] at *
    omega
/-- how large a plan can be -/
theorem stN_le {m k : Nat} : ∀ {d : Nat} {s : Stp}, OkS m k d s → stN s ≤ 8 ^ (d + 1)
  | d, .beat c, h => by rw [stN]; exact Nat.one_le_pow _ _ (by omega)
  | d, .skip c, h => by rw [stN]; exact Nat.one_le_pow _ _ (by omega)
  | 0, .times _ _, h => by rw [OkS] at h; exact h.elim
  | d + 1, .times j p, h => by
    rw [OkS] at h
    have go : ∀ p : List Stp, (∀ s ∈ p, stN s ≤ 8 ^ (d + 1)) → plN p ≤ 1 + p.length * 8 ^ (d + 1) := by
      intro p
      induction p with
      | nil => intro _; simp [plN]
      | cons s p ih =>
        intro hp
        have h1 := hp s List.mem_cons_self
        have h2 := ih fun x hx => hp x (List.mem_cons_of_mem _ hx)
        rw [plN, List.length_cons, Nat.add_mul]
        omega
    have h1 := go p fun s hs => stN_le (h.2.2 s hs)
    have h2 : p.length * 8 ^ (d + 1) ≤ 4 * 8 ^ (d + 1) := Nat.mul_le_mul_right _ h.2.1
    have h3 : 1 ≤ 8 ^ (d + 1) := Nat.one_le_pow _ _ (by omega)
    rw [stN, Nat.pow_succ 8 (d + 1)]
    omega
theorem plN_le {m k d : Nat} {p : List Stp} (o : OkP m k d p) : plN p ≤ 1 + 40 * 8 ^ (d + 1) := by
  have go : ∀ p : List Stp, (∀ s ∈ p, stN s ≤ 8 ^ (d + 1)) → plN p ≤ 1 + p.length * 8 ^ (d + 1) := by
    intro p
    induction p with
    | nil => intro _; simp [plN]
    | cons s p ih =>
      intro hp
      have h1 := hp s List.mem_cons_self
      have h2 := ih fun x hx => hp x (List.mem_cons_of_mem _ hx)
      rw [plN, List.length_cons, Nat.add_mul]
      omega
  have h1 := go p fun s hs => stN_le (o.st s hs)
  have := Nat.mul_le_mul_right (8 ^ (d + 1)) o.len
  omega
theorem subs_ok {m k d : Nat} {p q : List Stp} (o : OkP m k d p) (hq : q ∈ subs p) : OkP m k d q := by
  obtain ⟨s, hs, e⟩ := List.mem_map.mp hq
  rw [List.mem_filter] at hs
  have := o.st s hs.1
  cases s with
  | beat c => simp [isT] at hs
  | skip c => simp [isT] at hs
  | times j r =>
    simp [subP] at e
    subst e
    cases d with
    | zero => rw [OkS] at this; exact this.elim
    | succ d =>
      rw [OkS] at this
      exact ⟨by omega, fun s hs => (this.2.2 s hs).up _ (by omega)⟩
section
variable {h : Cells} {rs : List Nat} {ts : List (Pl × Pl)} {sk : List Pl}
theorem is_from_nD (n : Nat) (b : Int) : f_is_from [nD n, .int b] h = .ok (.bl (decide (b ≤ (n : Int)))) h := is_from_int n b
theorem is_between_nD (n : Nat) (a b : Int) : f_is_between [nD n, .int a, .int b] h = .ok (.bl (decide (a ≤ (n : Int)) && decide ((n : Int) ≤ b))) h := is_between_int n a b
theorem lenF_skD : lenF [skD sk] h = .ok (.int (sk.length : Int)) h := by simp [lenF, skD, seqOf]
theorem eqC_nil {x : D} {xs : List D} (g : okD 60 (.tup (x :: xs)) = true) : eqC h (.tup (x :: xs)) (.tup []) = some false := by
  unfold eqC
  have g2 : okD 60 (der h (.tup (x :: xs))) = true := g
  rw [if_pos ⟨g2, rfl⟩]
  rfl
theorem is_skip_step {d : Nat} {s : Stp} (hd : d ≤ 20) (o : OkS ts.length sk.length d s) : f_is_skip_step [flD rs ts, skD sk, stD s] h = .ok (.bl true) h := by
  have g := okD_st 60 o (by omega)
  cases s with
  | beat c =>
    rw [stD_beat] at g ⊢
    rw [OkS] at o
    simp [f_is_skip_step, b_f_is_skip_step, mkFn, argsL, eqC_nil g, lenF_tup, idxD_tup, der, isaD, is_call o, ok_beat, ok_skip]
  | skip j =>
    rw [stD_skip] at g ⊢
    rw [OkS] at o
    have c : (j : Int) ≤ (sk.length : Int) - 1 := by omega
    simp [f_is_skip_step, b_f_is_skip_step, mkFn, argsL, eqC_nil g, lenF_tup, idxD_tup, der, isaD, ok_skip, lenF_skD, is_between_nD, c]
  | times k p =>
    rw [stD_times] at g ⊢
    simp [f_is_skip_step, b_f_is_skip_step, mkFn, argsL, eqC_nil g, lenF_tup, idxD_tup, der, isaD, ok_skip, ok_beat, ok_times, is_from_nD]
theorem is_step {d : Nat} {s : Stp} (hd : d ≤ 20) (o : OkS ts.length 0 d s) : f_is_step [flD rs ts, stD s] h = .ok (.bl true) h := by
  have g := okD_st 60 o (by omega)
  cases s with
  | beat c =>
    rw [stD_beat] at g ⊢
    rw [OkS] at o
    simp [f_is_step, b_f_is_step, mkFn, argsL, eqC_nil g, lenF_tup, idxD_tup, der, isaD, is_call o, ok_beat]
  | skip j =>
    rw [OkS] at o
    omega
  | times k p =>
    rw [stD_times] at g ⊢
    simp [f_is_step, b_f_is_step, mkFn, argsL, eqC_nil g, lenF_tup, idxD_tup, der, isaD, ok_beat, ok_times, is_from_nD]
/-- is a step a repetition? -/
theorem eq_times {m k d : Nat} {s : Stp} (o : OkS m k d s) : ∃ w, idxD h (stD s) (.int 0) = some (.str w) ∧ eqC h (.str w) (.str "times") = some (isT s) := by
  cases s with
  | beat c => rw [stD_beat]; exact ⟨"beat", by simp [idxD_tup], by simp [ok_beat, ok_times, isT]⟩
  | skip c => rw [stD_skip]; exact ⟨"skip", by simp [idxD_tup], by simp [ok_skip, ok_times, isT]⟩
  | times c p => rw [stD_times]; exact ⟨"times", by simp [idxD_tup], by simp [ok_times, isT]⟩
theorem idx_times {s : Stp} (hs : isT s = true) : idxD h (stD s) (.int 2) = some (pnD (subP s)) := by
  cases s with
  | beat c => simp [isT] at hs
  | skip c => simp [isT] at hs
  | times c p => rw [stD_times]; simp [idxD_tup, subP]
structure Stk (m k d : Nat) (s : List (List Stp)) : Prop where
  ok : ∀ p ∈ s, OkP m k d p
  n : totN s ≤ 200000
theorem Stk.next {m k d : Nat} {s : List (List Stp)} {p : List Stp} (o : Stk m k d (s ++ [p])) : Stk m k d (s ++ subs p) ∧ totN (s ++ subs p) < totN (s ++ [p]) := by
  have l := subs_lt p
  have e : totN (s ++ subs p) < totN (s ++ [p]) := by
    rw [totN_app, totN_app]
    simp [totN] at l ⊢
    omega
  refine ⟨⟨fun q hq => ?_, by have := o.n; omega⟩, e⟩
  rcases List.mem_append.mp hq with z | z
  · exact o.ok q (List.mem_append_left _ z)
  · exact subs_ok (o.ok p (by simp)) z
theorem okD_stk {m k d : Nat} {s : List (List Stp)} (hd : d ≤ 20) (o : Stk m k d s) : okD 60 (.lst (s.map pnD)) = true := by
  simp only [okD, Bool.and_eq_true]
  exact ⟨by simp, okDs_map' fun p hp => okD_pn (o.ok p hp) 58 (by omega)⟩
theorem neC_stk {m k d : Nat} {s : List (List Stp)} (hd : d ≤ 20) (o : Stk m k d s) : neC (h ++ [(true, .lst (s.map pnD))]) (.ref h.length) (.lst []) = some (!s.isEmpty) := by
  have g := okD_stk hd o
  unfold neC eqC
  have e : der (h ++ [(true, .lst (s.map pnD))]) (.ref h.length) = .lst (s.map pnD) := by simp [der]
  have e2 : der (h ++ [(true, .lst (s.map pnD))]) (.lst []) = .lst [] := rfl
  rw [e, e2, if_pos ⟨g, rfl⟩]
  cases s <;> rfl
def nextS (s : List (List Stp)) : List (List Stp) := s.dropLast ++ subs (s.getLastD [])
theorem pnD_ap (p : List Stp) : pnD p = .tup (p.map stD) := rfl
theorem refs_stD (n : Nat) : ∀ s : Stp, refsLt n (stD s) = true := by
  intro s
  have go : ∀ (k : Nat) (s : Stp), stN s ≤ k → refsLt n (stD s) = true := by
    intro k
    induction k with
    | zero => intro s hs; cases s <;> simp [stN] at hs
    | succ k ih =>
      intro s hs
      cases s with
      | beat c => rw [stD_beat]; simp [refs_tD]
      | skip c => rw [stD_skip]; simp [nD]
      | times c p =>
        rw [stN] at hs
        have gp : ∀ p : List Stp, plN p ≤ k → refsLts n (p.map stD) = true := by
          intro p
          induction p with
          | nil => intro _; rfl
          | cons s p ip =>
            intro hp
            rw [plN] at hp
            have := plN_pos p
            rw [List.map_cons, refsLts_cons, ih s (by omega), ip (by omega)]
            rfl
        rw [stD_times]
        simp [nD, pnD, gp p (by omega)]
  exact go _ s (Nat.le_refl _)
theorem refs_pnD (n : Nat) (p : List Stp) : refsLt n (pnD p) = true := by
  rw [pnD_ap, refsLt_tup']
  exact refsLts_map (refs_stD n) p
theorem is_skip_plan {d : Nat} {p : List Stp} (hd : d ≤ 3) (o : OkP ts.length sk.length d p) : f_is_skip_plan [flD rs ts, skD sk, pnD p] h = .ok (.bl true) h := by
  have q : argsL 6 [flD rs ts, skD sk, pnD p] = [some (flD rs ts), some (skD sk), some (pnD p), none, none, none] := rfl
  have s0 : Stk ts.length sk.length d [p] := ⟨fun r hr => by simp at hr; rw [hr]; exact o, by
    have := plN_le o
    have h8 : 8 ^ (d + 1) ≤ 8 ^ 4 := Nat.pow_le_pow_right (by omega) (by omega)
    simp [totN]
    omega⟩
  obtain ⟨s', o', p', -, e⟩ := while_k (vs := [4]) (c := T_cmp neC (E_var 3) (E_lst false A_nil)) (b := (S_cons (S_set 4 (E_mtL popM (E_var 3) A_nil))
 (S_cons (S_if (T_or (T_not (T_E (E_isa "tuple" (E_var 4)))) (T_not (T_E (E_fn allF (A_cons (E_lc false [5] (I_seq (E_var 4)) (G_name 5) T_yes (E_fn f_is_skip_step (A_cons (E_var 0) (A_cons (E_var 1) (A_cons (E_var 5) A_nil))))) A_nil)))))
 (S_cons (S_ret (E_c (.bl false)))
 S_nil)
 S_nil)
 (S_cons (S_expr (E_mtL extendM (E_var 3) (A_cons (E_lc false [5] (I_seq (E_var 4)) (G_name 5) (T_cmp eqC (E_idx (E_var 5) (E_c (.int 0))) (E_c (.str "times"))) (E_idx (E_var 5) (E_c (.int 2)))) A_nil)))
 S_nil)))) (fun _ => ⟨h.length, [some (flD rs ts), some (skD sk), some (pnD p), some (.ref h.length), none, none]⟩) (fun s : List (List Stp) => h ++ [(true, D.lst (s.map pnD))]) (fun s => !s.isEmpty) nextS (Stk ts.length sk.length d) totN (fun s os => by
    have ne := neC_stk (h := h) (by omega) os
    refine ⟨fun k => ?_, fun hs => ?_⟩
    · rcases List.eq_nil_or_concat s with rfl | ⟨s, r, rfl⟩
      · simp at ne
        simp [ne]
      · rw [List.concat_eq_append] at ne os ⊢
        have orr := os.ok r (by simp)
        have n1 := os.n
        have n2 := totN_len (s ++ subs r)
        have n3 := os.next.2
        have pl : popM h.length (.ref h.length) [] (h ++ [(true, .lst ((s ++ [r]).map pnD))]) = .ok (pnD r) (h ++ [(true, .lst (s.map pnD))]) := by
          simp [popM, get_last, set_last]
        have l1 : lcGo (G_name 5) T_yes (E_fn f_is_skip_step (A_cons (E_var 0) (A_cons (E_var 1) (A_cons (E_var 5) A_nil)))) ⟨h.length, [some (flD rs ts), some (skD sk), some (pnD p), some (.ref h.length), some (pnD r), none]⟩ (r.map stD) [] (h ++ [(true, .lst (s.map pnD))]) = .ok ([] ++ r.map fun _ => D.bl true) (h ++ [(true, .lst (s.map pnD))]) :=
          lcGo_k stD (fun _ => D.bl true) r [] (by simp; have := orr.len; omega) (fun x hx K N => by simp [lcTurn, is_skip_step (by omega) (orr.st x hx)])
        have l2 : lcGo (G_name 5) (T_cmp eqC (E_idx (E_var 5) (E_c (.int 0))) (E_c (.str "times"))) (E_idx (E_var 5) (E_c (.int 2))) ⟨h.length, [some (flD rs ts), some (skD sk), some (pnD p), some (.ref h.length), some (pnD r), none]⟩ (r.map stD) [] (h ++ [(true, .lst (s.map pnD))]) = .ok ([] ++ (r.filter isT).map fun x => pnD (subP x)) (h ++ [(true, .lst (s.map pnD))]) :=
          lcGo_kf stD isT (fun x => pnD (subP x)) r [] (by simp; have := orr.len; omega) (fun x hx K N => by
            obtain ⟨w, w1, w2⟩ := eq_times (h := h ++ [(true, .lst (s.map pnD))]) (orr.st x hx)
            cases t : isT x with
            | false => simp [lcTurn, w1, w2, t]
            | true =>
              have i2 := idx_times (h := h ++ [(true, .lst (s.map pnD))]) t
              simp [lcTurn, w1, w2, t, i2])
        have al := allF_true (h := h ++ [(true, .lst (s.map pnD))]) (l := r) (f := fun _ => D.bl true) fun _ _ => rfl
        have sq : seqF (pnD r) = some (r.map stD) := rfl
        have d1 : der (h ++ [(true, .lst (s.map pnD))]) (pnD r) = pnD r := rfl
        have d2 : isaD "tuple" (pnD r) = some true := rfl
        have lst1 : lstOf (h ++ [(true, .lst ((s ++ [r]).map pnD))]) (.ref h.length) = some ((s ++ [r]).map pnD) := by simp [lstOf]
        have lst2 : lstOf (h ++ [(true, .lst (s.map pnD))]) (.ref h.length) = some (s.map pnD) := by simp [lstOf]
        have ex : extendM h.length (.ref h.length) [.lst ((r.filter isT).map fun x => pnD (subP x))] (h ++ [(true, .lst (s.map pnD))]) = .ok .non (h ++ [(true, .lst ((s ++ subs r).map pnD))]) := by
          have e1 : (r.filter isT).map (fun x => pnD (subP x)) = (subs r).map pnD := by simp [subs]
          rw [e1]
          have c : s.length + (subs r).length ≤ 1000000 := by simp at n2; omega
          simp [extendM, get_last, set_last, lstOf, okW, c]
        have nx : nextS (s ++ [r]) = s ++ subs r := by simp [nextS]
        rw [nx]
        simp at ne pl lst1 l1 l2 ex
        simp [ne, pl, lst1, lst2, d1, d2, sq, l1, al, l2, ex]
    · rcases List.eq_nil_or_concat s with rfl | ⟨s, r, rfl⟩
      · simp at hs
      · rw [List.concat_eq_append] at os ⊢
        have nx : nextS (s ++ [r]) = s ++ subs r := by simp [nextS]
        rw [nx]
        exact os.next) [p] s0
  refine mkFn_rt (h' := h ++ [(true, .lst (s'.map pnD))]) rfl ?_ (by simp) (take_last _ _)
  rw [q]
  simp at e
  simp [b_f_is_skip_plan, e]
end
end K78

namespace K78
open PySem Mi
section
variable {h : Cells} {rs : List Nat} {ts : List (Pl × Pl)} {sk : List Pl}
theorem is_plan_value {d : Nat} {p : List Stp} (hd : d ≤ 3) (o : OkP ts.length 0 d p) : f_is_plan_value [flD rs ts, pnD p] h = .ok (.bl true) h := by
  have q : argsL 5 [flD rs ts, pnD p] = [some (flD rs ts), some (pnD p), none, none, none] := rfl
  have s0 : Stk ts.length 0 d [p] := ⟨fun r hr => by simp at hr; rw [hr]; exact o, by
    have := plN_le o
    have h8 : 8 ^ (d + 1) ≤ 8 ^ 4 := Nat.pow_le_pow_right (by omega) (by omega)
    simp [totN]
    omega⟩
  obtain ⟨s', o', p', -, e⟩ := while_k (vs := [3]) (c := T_cmp neC (E_var 2) (E_lst false A_nil)) (b := (S_cons (S_set 3 (E_mtL popM (E_var 2) A_nil))
 (S_cons (S_if (T_or (T_not (T_E (E_isa "tuple" (E_var 3)))) (T_not (T_E (E_fn allF (A_cons (E_lc false [4] (I_seq (E_var 3)) (G_name 4) T_yes (E_fn f_is_step (A_cons (E_var 0) (A_cons (E_var 4) A_nil)))) A_nil)))))
 (S_cons (S_ret (E_c (.bl false)))
 S_nil)
 S_nil)
 (S_cons (S_expr (E_mtL extendM (E_var 2) (A_cons (E_lc false [4] (I_seq (E_var 3)) (G_name 4) (T_cmp eqC (E_idx (E_var 4) (E_c (.int 0))) (E_c (.str "times"))) (E_idx (E_var 4) (E_c (.int 2)))) A_nil)))
 S_nil)))) (fun _ => ⟨h.length, [some (flD rs ts), some (pnD p), some (.ref h.length), none, none]⟩) (fun s : List (List Stp) => h ++ [(true, D.lst (s.map pnD))]) (fun s => !s.isEmpty) nextS (Stk ts.length 0 d) totN (fun s os => by
    have ne := neC_stk (h := h) (by omega) os
    refine ⟨fun k => ?_, fun hs => ?_⟩
    · rcases List.eq_nil_or_concat s with rfl | ⟨s, r, rfl⟩
      · simp at ne
        simp [ne]
      · rw [List.concat_eq_append] at ne os ⊢
        have orr := os.ok r (by simp)
        have n1 := os.n
        have n2 := totN_len (s ++ subs r)
        have n3 := os.next.2
        have pl : popM h.length (.ref h.length) [] (h ++ [(true, .lst ((s ++ [r]).map pnD))]) = .ok (pnD r) (h ++ [(true, .lst (s.map pnD))]) := by
          simp [popM, get_last, set_last]
        have l1 : lcGo (G_name 4) T_yes (E_fn f_is_step (A_cons (E_var 0) (A_cons (E_var 4) A_nil))) ⟨h.length, [some (flD rs ts), some (pnD p), some (.ref h.length), some (pnD r), none]⟩ (r.map stD) [] (h ++ [(true, .lst (s.map pnD))]) = .ok ([] ++ r.map fun _ => D.bl true) (h ++ [(true, .lst (s.map pnD))]) :=
          lcGo_k stD (fun _ => D.bl true) r [] (by simp; have := orr.len; omega) (fun x hx K N => by simp [lcTurn, is_step (by omega) (orr.st x hx)])
        have l2 : lcGo (G_name 4) (T_cmp eqC (E_idx (E_var 4) (E_c (.int 0))) (E_c (.str "times"))) (E_idx (E_var 4) (E_c (.int 2))) ⟨h.length, [some (flD rs ts), some (pnD p), some (.ref h.length), some (pnD r), none]⟩ (r.map stD) [] (h ++ [(true, .lst (s.map pnD))]) = .ok ([] ++ (r.filter isT).map fun x => pnD (subP x)) (h ++ [(true, .lst (s.map pnD))]) :=
          lcGo_kf stD isT (fun x => pnD (subP x)) r [] (by simp; have := orr.len; omega) (fun x hx K N => by
            obtain ⟨w, w1, w2⟩ := eq_times (h := h ++ [(true, .lst (s.map pnD))]) (orr.st x hx)
            cases t : isT x with
            | false => simp [lcTurn, w1, w2, t]
            | true =>
              have i2 := idx_times (h := h ++ [(true, .lst (s.map pnD))]) t
              simp [lcTurn, w1, w2, t, i2])
        have al := allF_true (h := h ++ [(true, .lst (s.map pnD))]) (l := r) (f := fun _ => D.bl true) fun _ _ => rfl
        have sq : seqF (pnD r) = some (r.map stD) := rfl
        have d1 : der (h ++ [(true, .lst (s.map pnD))]) (pnD r) = pnD r := rfl
        have d2 : isaD "tuple" (pnD r) = some true := rfl
        have lst1 : lstOf (h ++ [(true, .lst ((s ++ [r]).map pnD))]) (.ref h.length) = some ((s ++ [r]).map pnD) := by simp [lstOf]
        have lst2 : lstOf (h ++ [(true, .lst (s.map pnD))]) (.ref h.length) = some (s.map pnD) := by simp [lstOf]
        have ex : extendM h.length (.ref h.length) [.lst ((r.filter isT).map fun x => pnD (subP x))] (h ++ [(true, .lst (s.map pnD))]) = .ok .non (h ++ [(true, .lst ((s ++ subs r).map pnD))]) := by
          have e1 : (r.filter isT).map (fun x => pnD (subP x)) = (subs r).map pnD := by simp [subs]
          rw [e1]
          have c : s.length + (subs r).length ≤ 1000000 := by simp at n2; omega
          simp [extendM, get_last, set_last, lstOf, okW, c]
        have nx : nextS (s ++ [r]) = s ++ subs r := by simp [nextS]
        rw [nx]
        simp at ne pl lst1 l1 l2 ex
        simp [ne, pl, lst1, lst2, d1, d2, sq, l1, al, l2, ex]
    · rcases List.eq_nil_or_concat s with rfl | ⟨s, r, rfl⟩
      · simp at hs
      · rw [List.concat_eq_append] at os ⊢
        have nx : nextS (s ++ [r]) = s ++ subs r := by simp [nextS]
        rw [nx]
        exact os.next) [p] s0
  refine mkFn_rt (h' := h ++ [(true, .lst (s'.map pnD))]) rfl ?_ (by simp) (take_last _ _)
  rw [q]
  simp at e
  simp [b_f_is_plan_value, e]
theorem need_plan (o : OkF rs ts) {d : Nat} {p : List Stp} (hd : d ≤ 3) (op : OkP ts.length 0 d p) : f_need_plan [flD rs ts, pnD p] h = .ok .non h := by
  simp [f_need_plan, b_f_need_plan, mkFn, argsL, need_floor o, is_plan_value hd op]
end
end K78

namespace K78
open PySem Mi
/-! touches by seats -/
def occ (tc : List Pl) : List Nat := tc.flatMap fun t => [t.1, t.2]
theorem occ_at : ∀ {tc : List Pl} {k : Nat} {t : Pl}, tc[k]? = some t → (occ tc)[2 * k]? = some t.1 ∧ (occ tc)[2 * k + 1]? = some t.2
  | [], k, t, e => by simp at e
  | u :: tc, 0, t, e => by
    simp at e
    subst e
    exact ⟨rfl, rfl⟩
  | u :: tc, k + 1, t, e => by
    rw [List.getElem?_cons_succ] at e
    have := occ_at e
    have e1 : occ (u :: tc) = u.1 :: u.2 :: occ tc := rfl
    rw [e1, show 2 * (k + 1) = 2 * k + 1 + 1 by omega, show 2 * k + 1 + 1 + 1 = 2 * k + 1 + 1 + 1 from rfl]
    simp only [List.getElem?_cons_succ]
    exact this
/-- x and y are the seats of the touch k -/
def Has (tc : List Pl) (k x y : Nat) : Prop := tc[k]? = some (x, y) ∨ tc[k]? = some (y, x)
theorem Has.symm {tc : List Pl} {k x y : Nat} (h : Has tc k x y) : Has tc k y x := h.elim .inr .inl
theorem nodup_at {l : List Nat} (hn : l.Nodup) {i j x : Nat} (h1 : l[i]? = some x) (h2 : l[j]? = some x) : i = j := by
  obtain ⟨a, b⟩ := List.getElem?_eq_some_iff.mp h1
  obtain ⟨c, d⟩ := List.getElem?_eq_some_iff.mp h2
  exact (List.getElem_inj hn).mp (b.trans d.symm)
theorem Has.uniq {tc : List Pl} (hn : (occ tc).Nodup) {k k' x y y' : Nat} (h : Has tc k x y) (h' : Has tc k' x y') : k = k' ∧ y = y' := by
  rcases h with h | h <;> rcases h' with h' | h'
  · have := nodup_at hn (occ_at h).1 (occ_at h').1
    have e : k = k' := by omega
    subst e
    rw [h] at h'
    exact ⟨rfl, (Prod.mk.inj (Option.some.inj h')).2⟩
  · have := nodup_at hn (occ_at h).1 (occ_at h').2
    omega
  · have := nodup_at hn (occ_at h).2 (occ_at h').1
    omega
  · have := nodup_at hn (occ_at h).2 (occ_at h').2
    have e : k = k' := by omega
    subst e
    rw [h] at h'
    exact ⟨rfl, (Prod.mk.inj (Option.some.inj h')).1⟩
theorem swF_iff {tc : List Pl} (hn : (occ tc).Nodup) : ∀ (c P : List Nat) (g : Nat → Option Nat), (∀ k ∈ c, k < tc.length) → (∀ x y, g x = some y ↔ ∃ k ∈ P, Has tc k x y) →
    ∀ x y, c.foldl (gTouch tc) g x = some y ↔ ∃ k ∈ P ++ c, Has tc k x y
  | [], P, g, _, hg, x, y => by simpa using hg x y
  | k :: c, P, g, hc, hg, x, y => by
    have hk := hc k List.mem_cons_self
    have e : tc[k]? = some (tc.getD k (0, 0)) := by rw [List.getD_eq_getElem?_getD, List.getElem?_eq_getElem hk]; rfl
    have := swF_iff hn c (P ++ [k]) (gTouch tc g k) (fun j hj => hc j (List.mem_cons_of_mem _ hj)) (fun x y => by
      generalize ht : tc.getD k (0, 0) = t at e
      obtain ⟨t1, t2⟩ := t
      unfold gTouch
      rw [ht]
      simp only
      have k1 : Has tc k t1 t2 := .inl e
      by_cases c1 : x = t2
      · subst c1
        rw [if_pos rfl]
        constructor
        · intro q
          cases q
          exact ⟨k, by simp, k1.symm⟩
        · rintro ⟨j, _, q⟩
          rw [(q.uniq hn k1.symm).2]
      · rw [if_neg c1]
        by_cases c2 : x = t1
        · subst c2
          rw [if_pos rfl]
          constructor
          · intro q
            cases q
            exact ⟨k, by simp, k1⟩
          · rintro ⟨j, _, q⟩
            rw [(q.uniq hn k1).2]
        · rw [if_neg c2, hg]
          constructor
          · rintro ⟨j, hj, q⟩
            exact ⟨j, by simp [hj], q⟩
          · rintro ⟨j, hj, q⟩
            rcases List.mem_append.mp hj with z | z
            · exact ⟨j, z, q⟩
            · simp at z
              subst z
              rcases q with q | q
              · rw [e] at q; cases q; exact absurd rfl c2
              · rw [e] at q; cases q; exact absurd rfl c1) x y
    rw [List.append_assoc] at this
    exact this
theorem swF_has {tc : List Pl} (hn : (occ tc).Nodup) {c : List Nat} (hc : ∀ k ∈ c, k < tc.length) (x y : Nat) : swF tc c x = some y ↔ ∃ k ∈ c, Has tc k x y := by
  have := swF_iff hn c [] (fun _ => none) hc (fun x y => by simp) x y
  rw [List.nil_append] at this
  exact this
def sgm (tc : List Pl) (c : List Nat) (x : Nat) : Nat := (swF tc c x).getD x
theorem sgm_inv {tc : List Pl} (hn : (occ tc).Nodup) {c : List Nat} (hc : ∀ k ∈ c, k < tc.length) (x : Nat) : sgm tc c (sgm tc c x) = x := by
  cases e : swF tc c x with
  | none =>
    have : sgm tc c x = x := by unfold sgm; rw [e]; rfl
    rw [this, this]
  | some y =>
    obtain ⟨k, hk, q⟩ := (swF_has hn hc x y).mp e
    have e2 := (swF_has hn hc y x).mpr ⟨k, hk, q.symm⟩
    have : sgm tc c x = y := by unfold sgm; rw [e]; rfl
    rw [this]
    unfold sgm
    rw [e2]; rfl
section
variable {rs : List Nat} {ts : List (Pl × Pl)} {sk : List Pl}
theorem occ_seats (o : OkF rs ts) : (occ (seatsT rs ts)).Nodup := by
  have e : occ (seatsT rs ts) = (someP ts).map (seat rs) := by
    unfold occ seatsT someP
    rw [List.flatMap_map, List.map_flatMap]
    rfl
  rw [e, List.Nodup, List.pairwise_map]
  refine o.t3.imp_of_mem fun {p q} hp hq hne e => hne (seat_inj ?_ ?_ e)
  · obtain ⟨t, ht, m⟩ := List.mem_flatMap.mp hp
    have := o.t1 t ht
    simp at m
    rcases m with rfl | rfl
    · exact okPl_iff.mp this.1
    · exact okPl_iff.mp this.2.1
  · obtain ⟨t, ht, m⟩ := List.mem_flatMap.mp hq
    have := o.t1 t ht
    simp at m
    rcases m with rfl | rfl
    · exact okPl_iff.mp this.1
    · exact okPl_iff.mp this.2.1
theorem has_lt (o : OkF rs ts) {k x y : Nat} (h : Has (seatsT rs ts) k x y) : x < rs.sum ∧ y < rs.sum := by
  have go : ∀ {k : Nat} {t : Pl}, (seatsT rs ts)[k]? = some t → t.1 < rs.sum ∧ t.2 < rs.sum := fun {k t} e => by
    unfold seatsT at e
    rw [List.getElem?_map] at e
    cases q : ts[k]? with
    | none => rw [q] at e; simp at e
    | some u =>
      rw [q] at e
      simp at e
      subst e
      have := o.t1 u (List.mem_of_getElem? q)
      exact ⟨seat_lt (okPl_iff.mp this.1), seat_lt (okPl_iff.mp this.2.1)⟩
  rcases h with h | h
  · exact go h
  · exact (go h).symm
theorem seatsT_len : (seatsT rs ts).length = ts.length := by simp [seatsT]
theorem sgm_lt (o : OkF rs ts) {c : List Nat} (hc : ∀ k ∈ c, k < ts.length) {x : Nat} (hx : x < rs.sum) : sgm (seatsT rs ts) c x < rs.sum := by
  cases e : swF (seatsT rs ts) c x with
  | none => unfold sgm; rw [e]; exact hx
  | some y =>
    obtain ⟨k, hk, q⟩ := (swF_has (occ_seats o) (by rw [seatsT_len]; exact hc) x y).mp e
    unfold sgm; rw [e]
    exact (has_lt o q).2
theorem callL_eq (c : List Nat) : callL rs ts c = (pls 0 rs).map fun p => sgm (seatsT rs ts) c (seat rs (beh rs p 1)) := rfl
theorem callL_pm (o : OkF rs ts) {c : List Nat} (hc : ∀ k ∈ c, k < ts.length) : Pm rs.sum (callL rs ts c) := by
  rw [callL_eq]
  refine ⟨⟨by simp [pls_len], fun s m => ?_⟩, ?_⟩
  · obtain ⟨p, hp, rfl⟩ := List.mem_map.mp m
    exact sgm_lt o hc (seat_lt (beh_mem hp 1))
  · rw [List.Nodup, List.pairwise_map]
    refine (pls_nodup 0 rs).imp_of_mem fun {p q} hp hq hne e => hne ?_
    have e2 := congrArg (sgm (seatsT rs ts) c) e
    have hc' : ∀ k ∈ c, k < (seatsT rs ts).length := by rw [seatsT_len]; exact hc
    rw [sgm_inv (occ_seats o) hc', sgm_inv (occ_seats o) hc'] at e2
    exact beh_inj hp hq 1 (seat_inj (beh_mem hp 1) (beh_mem hq 1) e2)
end
/-! maps of plans -/
mutual
def mpS (rs : List Nat) (ts : List (Pl × Pl)) (sk : List Pl) : Stp → List Nat
  | .beat c => callL rs ts c
  | .times k p => pw k (List.range rs.sum) (mpQ rs ts sk p (List.range rs.sum))
  | .skip j => skipL rs (sk.getD j (0, 0)).1 (sk.getD j (0, 0)).2
def mpQ (rs : List Nat) (ts : List (Pl × Pl)) (sk : List Pl) : List Stp → List Nat → List Nat
  | [], f => f
  | s :: p, f => mpQ rs ts sk p (fol f (mpS rs ts sk s))
end
def mpP (rs : List Nat) (ts : List (Pl × Pl)) (sk : List Pl) (p : List Stp) : List Nat := mpQ rs ts sk p (List.range rs.sum)
section
variable {h : Cells} {rs : List Nat} {ts : List (Pl × Pl)} {sk : List Pl}
theorem mpQ_foldl : ∀ (p : List Stp) (f : List Nat), mpQ rs ts sk p f = p.foldl (fun f s => fol f (mpS rs ts sk s)) f
  | [], f => by rw [mpQ]; rfl
  | s :: p, f => by rw [mpQ, mpQ_foldl p]; rfl
theorem mpQ_pm' : ∀ (p : List Stp) (f : List Nat), Pm rs.sum f → (∀ s ∈ p, Pm rs.sum (mpS rs ts sk s)) → Pm rs.sum (mpQ rs ts sk p f)
  | [], f, hf, _ => by rw [mpQ]; exact hf
  | s :: p, f, hf, hs => by
    rw [mpQ]
    exact mpQ_pm' p _ (hf.fol (hs s List.mem_cons_self)) fun x hx => hs x (List.mem_cons_of_mem _ hx)
theorem mpS_pm (o : OkF rs ts) : ∀ {d : Nat} {s : Stp}, OkS ts.length sk.length d s → Pm rs.sum (mpS rs ts sk s)
  | d, .beat c, h => by
    rw [OkS] at h
    rw [mpS]
    exact callL_pm o h.lt
  | d, .skip j, h => by rw [mpS]; exact skipL_pm _ _ _
  | 0, .times _ _, h => by rw [OkS] at h; exact h.elim
  | d + 1, .times k p, h => by
    rw [OkS] at h
    rw [mpS]
    exact Pm.pw k (Pm.range _) (mpQ_pm' p _ (Pm.range _) fun s hs => mpS_pm o (h.2.2 s hs))
theorem mpP_pm (o : OkF rs ts) {d : Nat} {p : List Stp} (op : OkP ts.length sk.length d p) : Pm rs.sum (mpP rs ts sk p) := mpQ_pm' p _ (Pm.range _) fun s hs => mpS_pm o (op.st s hs)
theorem mpQ_fol : ∀ (p : List Stp) (f : List Nat), Pm rs.sum f → (∀ s ∈ p, Pm rs.sum (mpS rs ts sk s)) → mpQ rs ts sk p f = fol f (mpP rs ts sk p)
  | [], f, hf, _ => by
    have e1 : mpQ rs ts sk [] f = f := by rw [mpQ]
    have e2 : mpP rs ts sk [] = List.range rs.sum := by unfold mpP; rw [mpQ]
    rw [e1, e2, fol_range hf.mp]
  | s :: p, f, hf, hs => by
    have h1 := hs s List.mem_cons_self
    have h2 : ∀ x ∈ p, Pm rs.sum (mpS rs ts sk x) := fun x hx => hs x (List.mem_cons_of_mem _ hx)
    have e1 : mpQ rs ts sk (s :: p) f = mpQ rs ts sk p (fol f (mpS rs ts sk s)) := by rw [mpQ]
    have e2 : mpP rs ts sk (s :: p) = mpQ rs ts sk p (fol (List.range rs.sum) (mpS rs ts sk s)) := by unfold mpP; rw [mpQ]
    rw [e1, e2, mpQ_fol p _ (hf.fol h1) h2, mpQ_fol p _ ((Pm.range _).fol h1) h2, range_fol h1.mp.len, fol_assoc hf.mp h1.mp]
theorem mpP_app (o : OkF rs ts) {d : Nat} {p q : List Stp} (op : OkP ts.length sk.length d p) (oq : OkP ts.length sk.length d q) : mpP rs ts sk (p ++ q) = fol (mpP rs ts sk p) (mpP rs ts sk q) := by
  have hp := fun s hs => mpS_pm (sk := sk) o (op.st s hs)
  have hq := fun s hs => mpS_pm (sk := sk) o (oq.st s hs)
  have e : mpP rs ts sk (p ++ q) = mpQ rs ts sk q (mpP rs ts sk p) := by
    unfold mpP
    rw [mpQ_foldl, mpQ_foldl, mpQ_foldl, List.foldl_append]
  rw [e, mpQ_fol q _ (mpP_pm o op) hq]
theorem map_skipped_of (o : OkF rs ts) {p : List Stp} {S : Fn} (hp : p.length ≤ 40) (hS : ∀ s ∈ p, S [flD rs ts, skD sk, stD s] h = .ok (lD (mpS rs ts sk s)) h) (hm : ∀ s ∈ p, Pm rs.sum (mpS rs ts sk s)) :
    g_f_map_skipped S [flD rs ts, skD sk, pnD p] h = .ok (lD (mpP rs ts sk p)) h := by
  have sm := o.sm
  refine mkFn_rt (h' := h) rfl ?_ (refs_lD _ _) (by simp)
  have q : argsL 5 [flD rs ts, skD sk, pnD p] = [some (flD rs ts), some (skD sk), some (pnD p), none, none] := rfl
  have r : E_listRg false (A_cons (E_fn sumA (A_cons (E_idx (E_var 0) (E_c (.int 0))) A_nil)) A_nil) ⟨h.length, [some (flD rs ts), some (skD sk), some (pnD p), none, none]⟩ h = .ok (lD (List.range rs.sum)) h := by
    rw [listRg_nat (h := h) rs.sum (by omega) (by simp [idx_fl0, sumA_rgs]) false]
    rfl
  have sq : seqF (pnD p) = some (p.map stD) := rfl
  rw [q]
  simp [gb_f_map_skipped, r, sq]
  rw [forGo_k stD (fun f : List Nat => ⟨h.length, [some (flD rs ts), some (skD sk), some (pnD p), some (lD f), none]⟩) (fun _ => h) (fun f s => fol f (mpS rs ts sk s)) (fun f l => Pm rs.sum f ∧ ∀ s ∈ l, s ∈ p) (fun f s l ok => by
    have hs := ok.2 s List.mem_cons_self
    have m := hm s hs
    refine ⟨⟨ok.1.fol m, fun x hx => ok.2 x (List.mem_cons_of_mem _ hx)⟩, fun k => ?_⟩
    have fo := followed (h := h) f (mpS rs ts sk s) (by rw [ok.1.mp.len]; omega) (fun x hx => by rw [m.mp.len]; exact ok.1.mp.lt x hx)
    simp [hS s hs, fo]) p (List.range rs.sum) ⟨Pm.range _, fun s hs => hs⟩]
  simp [mpP, mpQ_foldl]
theorem getD_sk {sk : List Pl} {j : Nat} (hj : j < sk.length) : idxD h (skD sk) (nD j) = some (plD (sk.getD j (0, 0))) := by
  show L2.atI (sk.map plD) (j : Int) = _
  exact atI_map (by rw [List.getD_eq_getElem?_getD, List.getElem?_eq_getElem hj]; rfl)
theorem step_beat (o : OkF rs ts) (n : Nat) {c : List Nat} (hs : OkC ts.length c) : f_step_skipped (n + 1) [flD rs ts, skD sk, stD (.beat c)] h = .ok (lD (callL rs ts c)) h := by
  rw [stD_beat, f_step_skipped]
  simp [mkFn, argsL, idxD_tup, ok_beat, ok_skip, call_map o c hs.lt hs.len, refs_lD]
theorem step_skip (o : OkF rs ts) (n : Nat) {j : Nat} (hs : j < sk.length) : f_step_skipped (n + 1) [flD rs ts, skD sk, stD (.skip j)] h = .ok (lD (skipL rs (sk.getD j (0, 0)).1 (sk.getD j (0, 0)).2)) h := by
  rw [stD_skip, f_step_skipped]
  have e : f_skip_map [flD rs ts, plD (sk.getD j (0, 0))] h = .ok (lD (skipL rs (sk.getD j (0, 0)).1 (sk.getD j (0, 0)).2)) h := skip_map (h := h) (rs := rs) (ts := ts) o.sm (sk.getD j (0, 0)).1 (sk.getD j (0, 0)).2
  have i2 := getD_sk (h := h) hs
  generalize sk.getD j (0, 0) = g at *
  simp [mkFn, argsL, idxD_tup, ok_skip, i2, e, refs_lD]
theorem step_times (n k : Nat) {p : List Stp} {m : List Nat} {N : Nat} (hN : N ≤ 60) (hk : k ≤ 2000000) (pm : Mp N m) (e : g_f_map_skipped (f_step_skipped n) [flD rs ts, skD sk, pnD p] h = .ok (lD m) h) :
    f_step_skipped (n + 1) [flD rs ts, skD sk, stD (.times k p)] h = .ok (lD (pw k (List.range N) m)) h := by
  rw [stD_times, f_step_skipped]
  have pw := map_power (h := h) hN pm k hk
  simp -implicitDefEqProofs [mkFn, argsL, idxD_tup, ok_beat, ok_times, ok_skip, e, pw, refs_lD]
theorem step_skipped (o : OkF rs ts) : ∀ (n d : Nat) (s : Stp), d < n → OkS ts.length sk.length d s → f_step_skipped n [flD rs ts, skD sk, stD s] h = .ok (lD (mpS rs ts sk s)) h := by
  intro n
  induction n with
  | zero => intro d s hn; omega
  | succ n ih =>
    intro d s hn hs
    cases s with
    | beat c =>
      rw [OkS] at hs
      rw [mpS]
      exact step_beat o n hs
    | skip j =>
      rw [OkS] at hs
      rw [mpS]
      exact step_skip o n hs
    | times k p =>
      cases d with
      | zero => rw [OkS] at hs; exact hs.elim
      | succ d =>
        rw [OkS] at hs
        rw [mpS]
        have pm : ∀ s ∈ p, Pm rs.sum (mpS rs ts sk s) := fun s m => mpS_pm o (hs.2.2 s m)
        exact step_times n k o.sm hs.1 (mpQ_pm' p _ (Pm.range _) pm).mp (map_skipped_of (h := h) (S := f_step_skipped n) o (by omega) (fun s m => ih d s (by omega) (hs.2.2 s m)) pm)
theorem map_skipped (o : OkF rs ts) {d : Nat} {p : List Stp} (hd : d ≤ 5) (op : OkP ts.length sk.length d p) : f_map_skipped [flD rs ts, skD sk, pnD p] h = .ok (lD (mpP rs ts sk p)) h :=
  map_skipped_of o op.len (fun s hs => step_skipped o 6 d s (by omega) (op.st s hs)) fun s hs => mpS_pm o (op.st s hs)
end
end K78

namespace K78
open PySem Mi
section
variable {h : Cells} {rs : List Nat} {ts : List (Pl × Pl)} {sk : List Pl}
theorem OkS.more {m k k' : Nat} (hk : k ≤ k') : ∀ {d : Nat} {s : Stp}, OkS m k d s → OkS m k' d s
  | d, .beat c, h => by rw [OkS] at h ⊢; exact h
  | d, .skip c, h => by rw [OkS] at h ⊢; omega
  | 0, .times _ _, h => by rw [OkS] at h; exact h.elim
  | d + 1, .times j p, h => by
    rw [OkS] at h ⊢
    exact ⟨h.1, h.2.1, fun s hs => (h.2.2 s hs).more hk⟩
theorem OkP.more {m k k' d : Nat} (hk : k ≤ k') {p : List Stp} (o : OkP m k d p) : OkP m k' d p := ⟨o.len, fun s hs => (o.st s hs).more hk⟩
theorem mpQ_congr {sk' : List Pl} : ∀ (p : List Stp) (f : List Nat), (∀ s ∈ p, mpS rs ts sk s = mpS rs ts sk' s) → mpQ rs ts sk p f = mpQ rs ts sk' p f := by
  intro p f hp
  rw [mpQ_foldl, mpQ_foldl]
  induction p generalizing f with
  | nil => rfl
  | cons s p ih =>
    rw [List.foldl_cons, List.foldl_cons, hp s List.mem_cons_self]
    exact ih _ fun x hx => hp x (List.mem_cons_of_mem _ hx)
theorem mpS_plain {sk' : List Pl} : ∀ {d : Nat} {s : Stp}, OkS ts.length 0 d s → mpS rs ts sk s = mpS rs ts sk' s
  | d, .beat c, h => by rw [mpS, mpS]
  | d, .skip c, h => by rw [OkS] at h; omega
  | 0, .times _ _, h => by rw [OkS] at h; exact h.elim
  | d + 1, .times j p, h => by
    rw [OkS] at h
    rw [mpS, mpS, mpQ_congr p _ fun s hs => mpS_plain (h.2.2 s hs)]
theorem mpP_plain {sk' : List Pl} {d : Nat} {p : List Stp} (o : OkP ts.length 0 d p) : mpP rs ts sk p = mpP rs ts sk' p := mpQ_congr p _ fun s hs => mpS_plain (o.st s hs)
theorem map_of_of (o : OkF rs ts) {p : List Stp} {S : Fn} (hp : p.length ≤ 40) (hS : ∀ s ∈ p, S [flD rs ts, stD s] h = .ok (lD (mpS rs ts sk s)) h) (hm : ∀ s ∈ p, Pm rs.sum (mpS rs ts sk s)) :
    g_f_map_of S [flD rs ts, pnD p] h = .ok (lD (mpP rs ts sk p)) h := by
  have sm := o.sm
  refine mkFn_rt (h' := h) rfl ?_ (refs_lD _ _) (by simp)
  have q : argsL 4 [flD rs ts, pnD p] = [some (flD rs ts), some (pnD p), none, none] := rfl
  have r : E_listRg false (A_cons (E_fn sumA (A_cons (E_idx (E_var 0) (E_c (.int 0))) A_nil)) A_nil) ⟨h.length, [some (flD rs ts), some (pnD p), none, none]⟩ h = .ok (lD (List.range rs.sum)) h := by
    rw [listRg_nat (h := h) rs.sum (by omega) (by simp [idx_fl0, sumA_rgs]) false]
    rfl
  have sq : seqF (pnD p) = some (p.map stD) := rfl
  rw [q]
  simp -implicitDefEqProofs [gb_f_map_of, r, sq]
  rw [forGo_k stD (fun f : List Nat => ⟨h.length, [some (flD rs ts), some (pnD p), some (lD f), none]⟩) (fun _ => h) (fun f s => fol f (mpS rs ts sk s)) (fun f l => Pm rs.sum f ∧ ∀ s ∈ l, s ∈ p) (fun f s l ok => by
    have hs := ok.2 s List.mem_cons_self
    have m := hm s hs
    refine ⟨⟨ok.1.fol m, fun x hx => ok.2 x (List.mem_cons_of_mem _ hx)⟩, fun k => ?_⟩
    have fo := followed (h := h) f (mpS rs ts sk s) (by rw [ok.1.mp.len]; omega) (fun x hx => by rw [m.mp.len]; exact ok.1.mp.lt x hx)
    simp -implicitDefEqProofs [hS s hs, fo]) p (List.range rs.sum) ⟨Pm.range _, fun s hs => hs⟩]
  simp [mpP, mpQ_foldl]
theorem stepp_beat (o : OkF rs ts) (n : Nat) {c : List Nat} (hs : OkC ts.length c) : f_step_map (n + 1) [flD rs ts, stD (.beat c)] h = .ok (lD (callL rs ts c)) h := by
  rw [stD_beat, f_step_map]
  simp -implicitDefEqProofs [mkFn, argsL, idxD_tup, ok_beat, call_map o c hs.lt hs.len, refs_lD]
theorem stepp_times (n k : Nat) {p : List Stp} {m : List Nat} {N : Nat} (hN : N ≤ 60) (hk : k ≤ 2000000) (pm : Mp N m) (e : g_f_map_of (f_step_map n) [flD rs ts, pnD p] h = .ok (lD m) h) :
    f_step_map (n + 1) [flD rs ts, stD (.times k p)] h = .ok (lD (pw k (List.range N) m)) h := by
  rw [stD_times, f_step_map]
  have pw := map_power (h := h) hN pm k hk
  simp -implicitDefEqProofs [mkFn, argsL, idxD_tup, ok_beat, ok_times, e, pw, refs_lD]
theorem step_map (o : OkF rs ts) : ∀ (n d : Nat) (s : Stp), d < n → OkS ts.length 0 d s → f_step_map n [flD rs ts, stD s] h = .ok (lD (mpS rs ts sk s)) h := by
  intro n
  induction n with
  | zero => intro d s hn; omega
  | succ n ih =>
    intro d s hn hs
    cases s with
    | beat c =>
      rw [OkS] at hs
      rw [mpS]
      exact stepp_beat o n hs
    | skip j =>
      rw [OkS] at hs
      omega
    | times k p =>
      cases d with
      | zero => rw [OkS] at hs; exact hs.elim
      | succ d =>
        rw [OkS] at hs
        rw [mpS]
        have pm : ∀ s ∈ p, Pm rs.sum (mpS rs ts sk s) := fun s m => mpS_pm o ((hs.2.2 s m).more (Nat.zero_le _))
        exact stepp_times n k o.sm hs.1 (mpQ_pm' p _ (Pm.range _) pm).mp (map_of_of (h := h) (S := f_step_map n) o (by omega) (fun s m => ih d s (by omega) (hs.2.2 s m)) pm)
theorem map_of (o : OkF rs ts) {d : Nat} {p : List Stp} (hd : d ≤ 5) (op : OkP ts.length 0 d p) : f_map_of [flD rs ts, pnD p] h = .ok (lD (mpP rs ts sk p)) h :=
  map_of_of o op.len (fun s hs => step_map o 6 d s (by omega) (op.st s hs)) fun s hs => mpS_pm o ((op.st s hs).more (Nat.zero_le _))
theorem skipped_after (o : OkF rs ts) (ok : OkK rs sk) {a : List Nat} (ha : Pm rs.sum a) {d : Nat} {p : List Stp} (hd : d ≤ 3) (op : OkP ts.length sk.length d p) :
    f_skipped_after [flD rs ts, skD sk, tD a, pnD p] h = .ok (tD (ledL a (mpP rs ts sk p))) h := by
  have e := arranged (h := h) (mpP_pm o op) ha.mp.len o.sm
  simp -implicitDefEqProofs [f_skipped_after, b_f_skipped_after, mkFn, argsL, need_skips o ok, need_arrangement o ha, is_skip_plan hd op, map_skipped o (by omega : d ≤ 5) op, e, refs_tD]
theorem after_ (o : OkF rs ts) {a : List Nat} (ha : Pm rs.sum a) {d : Nat} {p : List Stp} (hd : d ≤ 3) (op : OkP ts.length 0 d p) :
    f_after [flD rs ts, tD a, pnD p] h = .ok (tD (ledL a (mpP rs ts sk p))) h := by
  have e := arranged (h := h) (mpP_pm (sk := sk) o (op.more (Nat.zero_le _))) ha.mp.len o.sm
  have m := map_of (h := h) (sk := sk) o (by omega : d ≤ 5) op
  simp -implicitDefEqProofs [f_after, b_f_after, mkFn, argsL, need_plan o hd op, need_arrangement o ha, m, e, refs_tD]
end
end K78

namespace K78
open PySem Mi
/-! the law's own: maps -/
section
variable {h : Cells} {rs : List Nat} {ts : List (Pl × Pl)} {sk : List Pl}
theorem tupleF_lst (xs : List D) : tupleF [.lst xs] h = .ok (.tup xs) h := rfl
theorem l_then (a b : List Nat) (ha : a.length ≤ 60) (hb : ∀ s ∈ a, s < b.length) : f_law_then [tD a, tD b] h = .ok (tD (fol a b)) h := by
  simp -implicitDefEqProofs [f_law_then, b_f_law_then, mkFn, argsL, seqF_tD]
  rw [lcGo_k nD (fun s => nD (b.getD s 0)) a [] (by simp; omega) (fun s hs K N => by
    have e := idx_tD (h := h) (hb s hs)
    have e2 : nD s = .int (s : Int) := rfl
    simp -implicitDefEqProofs [lcTurn, e2, e])]
  have r := refs_tD h.length (fol a b)
  simp [tD, fol, Function.comp_def] at r
  simp [tupleF_lst, tD, fol, Function.comp_def, r]
theorem l_power {n : Nat} (hn : n ≤ 60) {a : List Nat} (ha : Mp n a) (k : Nat) : f_law_power [tD a, nD k] h = .ok (tD (pw k (List.range n) a)) h := by
  refine mkFn_rt (h' := h) rfl ?_ (refs_tD _ _) (by simp)
  have q : argsL 3 [tD a, nD k] = [some (tD a), some (nD k), none] := rfl
  have r : E_tupRg (A_cons (E_fn lenF (A_cons (E_var 0) A_nil)) A_nil) ⟨h.length, [some (tD a), some (nD k), none]⟩ h = .ok (tD (List.range n)) h := by
    rw [tupRg_nat (h := h) n (by omega) (by simp [lenF_tD, ha.len])]
    rfl
  have p2 : posD 2 = true := by decide
  obtain ⟨⟨f', k', s'⟩, o', p', R', e⟩ := while_k (vs := []) (c := T_cmp (ltI fun i j => decide (j < i)) (E_var 1) (E_c (.int 0))) (b := (S_cons (S_if (T_cmp eqC (E2 andD (E_var 1) (E_c (.int 1))) (E_c (.int 1)))
 (S_cons (S_set 2 (E_fn f_law_then (A_cons (E_var 2) (A_cons (E_var 0) A_nil))))
 S_nil)
 S_nil)
 (S_cons (S_par 0 1 (A_cons (E_fn f_law_then (A_cons (E_var 0) (A_cons (E_var 0) A_nil))) (A_cons (E2 divD (E_var 1) (E_c (.int 2))) A_nil)))
 S_nil))) (fun x : List Nat × Nat × List Nat => ⟨h.length, [some (tD x.2.2), some (nD x.2.1), some (tD x.1)]⟩) (fun _ => h) (fun x => decide (0 < x.2.1)) (fun x => (if x.2.1 % 2 = 1 then fol x.1 x.2.2 else x.1, x.2.1 / 2, fol x.2.2 x.2.2)) (fun x => Mp n x.1 ∧ Mp n x.2.2) (fun x => x.2.1) (fun x ox => by
    obtain ⟨f, k, s⟩ := x
    obtain ⟨hf, hs⟩ := ox
    simp only at hf hs
    refine ⟨fun K => ?_, fun hp => ⟨⟨?_, hs.fol hs⟩, ?_⟩⟩
    · have f1 := l_then (h := h) f s (by rw [hf.len]; exact hn) (fun x m => by rw [hs.len]; exact hf.lt x m)
      have f2 := l_then (h := h) s s (by rw [hs.len]; exact hn) (fun x m => by rw [hs.len]; exact hs.lt x m)
      have ad : andD (nD k) (.int 1) h = .ok (nD (k % 2)) h := by
        show Res.ok (D.int (Builtin.bitAnd (k : Int) 1)) h = _
        rw [show Builtin.bitAnd (k : Int) 1 = ((k % 2 : Nat) : Int) from (PyProof.Rows.bitAnd_m1 (k : Int)).trans (by omega)]
        rfl
      have dv : divD (nD k) (.int 2) h = .ok (nD (k / 2)) h := by
        simp [nD, p2]
      have eq1 : eqC h (nD 1) (.int 1) = some true := eqC_ii h 1 1
      have lt : ltI (fun i j => decide (j < i)) h (nD k) (.int 0) = some (decide (0 < k)) := by simp [nD]
      have eq : eqC h (nD (k % 2)) (.int 1) = some (decide (k % 2 = 1)) := by
        have : ((k % 2 : Nat) : Int) = 1 ↔ k % 2 = 1 := by omega
        simp [nD]
        rw [Bool.eq_iff_iff]; simp; omega
      by_cases c0 : 0 < k
      · by_cases c : k % 2 = 1
        · simp -implicitDefEqProofs [lt, c0, ad, eq, eq1, c, f1, f2, dv]
        · simp -implicitDefEqProofs [lt, c0, ad, eq, c, f2, dv]
      · simp -implicitDefEqProofs [lt, c0]
    · simp only
      split
      · exact hf.fol hs
      · exact hf
    · simp at hp ⊢; omega) (List.range n, k, a) ⟨Mp.range n, ha⟩
  have R1 := R' (fun x => pw x.2.1 x.1 x.2.2) (fun x ox hp => by
    simp at hp
    have : ¬ x.2.1 = 0 := by omega
    conv => rhs; rw [pw]
    rw [if_neg this])
  simp at p' R1
  subst p'
  rw [pw] at R1
  simp at R1
  rw [q]
  simp at e
  simp -implicitDefEqProofs [b_f_law_power, r, e, R1]
theorem enum_tup {α : Type} (f : α → D) (l : List α) : enumD 0 (l.map f) = l.zipIdx.map fun x => .tup [nD x.2, f x.1] := enum_map f 0 l
theorem zip_zipIdx' {f a : List Nat} (hl : f.length = a.length) : f.zip a = a.zipIdx.map fun x => (f.getD x.2 0, x.1) := by
  refine List.ext_getElem (by simp; omega) fun i h1 h2 => ?_
  have h3 : i < f.length := by simp at h1; omega
  simp [List.getD_eq_getElem?_getD, List.getElem?_eq_getElem h3]
theorem l_led {n : Nat} {a f : List Nat} (hf : Pm n f) (ha : a.length = n) (hn : n ≤ 60) : f_law_led [tD a, tD f] h = .ok (tD (ledL a f)) h := by
  have lf := hf.mp.len
  refine mkFn_rt (h' := h ++ [(true, .lst ((ledL a f).map nD))]) rfl ?_ (refs_tD _ _) (take_last _ _)
  have q : argsL 5 [tD a, tD f] = [some (tD a), some (tD f), none, none, none] := rfl
  have l1 : listF true [tD a] h = .ok (.ref h.length) (h ++ [(true, .lst (a.map nD))]) := by simp [listF, tD, seqOf]
  rw [q]
  simp -implicitDefEqProofs [b_f_law_led, l1, seqF_tD, enum_tup]
  rw [forGo_k (fun x : Nat × Nat => .tup [nD x.2, nD x.1]) (fun _ => ⟨h.length, [some (tD a), some (tD f), some (.ref h.length), none, none]⟩) (fun r : List Nat => h ++ [(true, D.lst (r.map nD))]) (fun r x => r.set (f.getD x.2 0) x.1)
    (fun r l => r.length = n ∧ ∀ x ∈ l, x.2 < n) (fun r x l ok => by
      obtain ⟨hr, hx⟩ := ok
      have x2 := hx x List.mem_cons_self
      refine ⟨⟨by simpa using hr, fun y hy => hx y (List.mem_cons_of_mem _ hy)⟩, fun k => ?_⟩
      have e1 := idx_tD (h := h ++ [(true, .lst (r.map nD))]) (c := f) (s := x.2) (by omega)
      have m : f.getD x.2 0 < n := hf.mp.lt _ (getD_mem (by omega))
      have e2 := set_lst (h := h) (r := r) (s := f.getD x.2 0) (by omega) x.1
      have e3 : nD x.2 = .int (x.2 : Int) := rfl
      simp -implicitDefEqProofs [e3, e1]
      simp at e2
      simp -implicitDefEqProofs [e2]) a.zipIdx a ⟨ha, fun x hx => by
        have := List.mem_zipIdx' hx
        have l := this.1
        omega⟩]
  have e : a.zipIdx.foldl (fun r x => r.set (f.getD x.2 0) x.1) a = ledL a f := by
    rw [← setZ_led hf ha ha]
    unfold setZ
    rw [zip_zipIdx' (by omega), List.foldl_map]
  simp only [e]
  simp [tupleF, lstOf, get_last, tD]
/-! gcd -/
theorem l_gcd (a b : Nat) : f_law_gcd [nD a, nD b] h = .ok (nD (Nat.gcd a b)) h := by
  obtain ⟨⟨a', b'⟩, o', p', R', e⟩ := while_k (vs := []) (c := T_cmp (ltI fun i j => decide (j < i)) (E_var 1) (E_c (.int 0))) (b := (S_cons (S_par 0 1 (A_cons (E_var 1) (A_cons (E2 modD (E_fn intF (A_cons (E_var 0) A_nil)) (E_var 1)) A_nil)))
 S_nil)) (fun x : Nat × Nat => ⟨h.length, [some (nD x.1), some (nD x.2)]⟩) (fun _ => h) (fun x => decide (0 < x.2)) (fun x => (x.2, x.1 % x.2)) (fun _ => True) (fun x => x.2) (fun x _ => by
    refine ⟨fun K => ?_, fun hp => ⟨trivial, ?_⟩⟩
    · by_cases c : 0 < x.2
      · simp -implicitDefEqProofs [nD, c]
      · simp -implicitDefEqProofs [nD, c]
    · simp at hp
      exact Nat.mod_lt _ hp) (a, b) trivial
  have R1 := R' (fun x => Nat.gcd x.1 x.2) (fun x _ hp => by
    show Nat.gcd x.2 (x.1 % x.2) = Nat.gcd x.1 x.2
    rw [Nat.gcd_comm x.2, ← Nat.gcd_rec, Nat.gcd_comm])
  simp at p' R1
  subst p'
  simp at R1
  simp at e
  refine mkFn_rt (h' := h) rfl ?_ (refs_n _ _) (by simp)
  have q : argsL 2 [nD a, nD b] = [some (nD a), some (nD b)] := rfl
  rw [q]
  simp -implicitDefEqProofs [b_f_law_gcd, e, R1]
/-! the same -/
theorem l_same_int (n : Nat) (i : Nat) : f_law_same (n + 1) [nD i, nD i] h = .ok (.bl true) h := by
  rw [f_law_same]
  simp -implicitDefEqProofs [mkFn, argsL, nD, der, isaD, isC', isV]
theorem l_same (n : Nat) (a : List Nat) (ha : a.length ≤ 60) : f_law_same (n + 2) [tD a, tD a] h = .ok (.bl true) h := by
  rw [f_law_same]
  simp -implicitDefEqProofs [mkFn, argsL, der_tD, isa_tD, lenF_tD]
  have z : ∀ m : Mi.Loc, m.v[0]? = some (some (tD a)) → m.v[1]? = some (some (tD a)) → I_zip (A_cons (E_var 0) (A_cons (E_var 1) A_nil)) m h = .ok ((a.zip a).map fun x => .tup [nD x.1, nD x.2]) h := fun m h0 h1 => by
    have e : zip2D (tD a) (tD a) = some ((a.zip a).map fun x => .tup [nD x.1, nD x.2]) := by
      show some (zipD (a.map nD) (a.map nD)) = _
      rw [zipD_map]
    simp [I_zip, h0, h1, e]
  simp -implicitDefEqProofs [z]
  rw [lcGo_kf (fun x : Nat × Nat => .tup [nD x.1, nD x.2]) (fun _ => false) (fun _ => .non) (a.zip a) [] (by simp; omega) (fun x hx K N => by
    have e : x.1 = x.2 := by
      have : ∀ (a : List Nat) (x : Nat × Nat), x ∈ a.zip a → x.1 = x.2 := by
        intro a
        induction a with
        | nil => intro x m; simp at m
        | cons b a ih =>
          intro x m
          rw [List.zip_cons_cons, List.mem_cons] at m
          rcases m with rfl | m
          · rfl
          · exact ih x m
      exact this a x hx
    obtain ⟨x1, x2⟩ := x
    simp at e
    subst e
    simp -implicitDefEqProofs [lcTurn, l_same_int])]
  have e : eqC h (.lst []) (.lst []) = some true := eqC_self rfl rfl
  have fl : (a.zip a).filter (fun _ => false) = [] := by simp
  rw [fl]
  simp [e]
end
end K78

namespace K78
open PySem Mi
/-! the law's own: places and the table -/
def setI (L : List (Nat × Int)) (r : List Int) : List Int := L.foldl (fun r x => r.set x.1 x.2) r
theorem setI_len : ∀ (L : List (Nat × Int)) (r : List Int), (setI L r).length = r.length
  | [], r => rfl
  | x :: L, r => by
    show (setI L (r.set x.1 x.2)).length = _
    rw [setI_len L]; simp
theorem setI_out : ∀ (L : List (Nat × Int)) (r : List Int) (t : Nat), (∀ x ∈ L, x.1 ≠ t) → (setI L r)[t]? = r[t]?
  | [], r, t, _ => rfl
  | x :: L, r, t, h => by
    show (setI L (r.set x.1 x.2))[t]? = _
    rw [setI_out L _ t fun y hy => h y (List.mem_cons_of_mem _ hy), List.getElem?_set_ne (h x List.mem_cons_self)]
theorem setI_in : ∀ (L : List (Nat × Int)) (r : List Int), (L.map Prod.fst).Nodup → ∀ x ∈ L, x.1 < r.length → (setI L r)[x.1]? = some x.2
  | [], r, _, x, h, _ => by cases h
  | y :: L, r, hn, x, h, hl => by
    rw [List.map_cons, List.nodup_cons] at hn
    show (setI L (r.set y.1 y.2))[x.1]? = _
    rcases List.mem_cons.mp h with e | e
    · subst e
      rw [setI_out L _ _ fun z hz e => hn.1 (by rw [← e]; exact List.mem_map_of_mem hz), List.getElem?_set_self hl]
    · exact setI_in L _ hn.2 x e (by simpa using hl)
def mtP (tc : List Pl) : List (Nat × Int) := tc.flatMap fun t => [(t.1, (t.2 : Int)), (t.2, (t.1 : Int))]
def nmP (tc : List Pl) : List (Nat × Int) := tc.zipIdx.flatMap fun x => [(x.1.1, (x.2 : Int)), (x.1.2, (x.2 : Int))]
def mtL (rs : List Nat) (ts : List (Pl × Pl)) : List Int := setI (mtP (seatsT rs ts)) (List.replicate rs.sum (-1))
def nmL (rs : List Nat) (ts : List (Pl × Pl)) : List Int := setI (nmP (seatsT rs ts)) (List.replicate rs.sum (-1))
theorem mtP_fst (tc : List Pl) : (mtP tc).map Prod.fst = occ tc := by
  unfold mtP occ
  rw [List.map_flatMap]
  rfl
theorem nmP_fst (tc : List Pl) : (nmP tc).map Prod.fst = occ tc := by
  have : ∀ (u : Nat) (tc : List Pl), ((tc.zipIdx u).flatMap fun x => [(x.1.1, (x.2 : Int)), (x.1.2, (x.2 : Int))]).map Prod.fst = occ tc := by
    intro u tc
    induction tc generalizing u with
    | nil => rfl
    | cons t tc ih =>
      rw [List.zipIdx_cons, List.flatMap_cons, List.map_append, ih]
      rfl
  exact this 0 tc
section
variable {h : Cells} {rs : List Nat} {ts : List (Pl × Pl)} {sk : List Pl}
theorem mt_nm (o : OkF rs ts) {k x y : Nat} (q : Has (seatsT rs ts) k x y) : (mtL rs ts)[x]? = some (y : Int) ∧ (nmL rs ts)[x]? = some (k : Int) := by
  have nd := occ_seats o
  have lt := has_lt o q
  constructor
  · refine setI_in (mtP (seatsT rs ts)) _ (by rw [mtP_fst]; exact nd) (x, (y : Int)) ?_ (by simpa using lt.1)
    unfold mtP
    rw [List.mem_flatMap]
    rcases q with q | q
    · exact ⟨_, List.mem_of_getElem? q, by simp⟩
    · exact ⟨_, List.mem_of_getElem? q, by simp⟩
  · refine setI_in (nmP (seatsT rs ts)) _ (by rw [nmP_fst]; exact nd) (x, (k : Int)) ?_ (by simpa using lt.1)
    unfold nmP
    rw [List.mem_flatMap]
    rcases q with q | q
    · exact ⟨((x, y), k), List.mem_zipIdx_iff_getElem?.mpr q, by simp⟩
    · exact ⟨((y, x), k), List.mem_zipIdx_iff_getElem?.mpr q, by simp⟩
theorem nm_out {x : Nat} (hx : x < rs.sum) (q : ∀ k y, ¬ Has (seatsT rs ts) k x y) : (nmL rs ts)[x]? = some (-1) := by
  unfold nmL
  rw [setI_out]
  · rw [List.getElem?_replicate, if_pos hx]
  · intro z hz e
    unfold nmP at hz
    rw [List.mem_flatMap] at hz
    obtain ⟨⟨t, k⟩, ht, m⟩ := hz
    have g := List.mem_zipIdx_iff_getElem?.mp ht
    simp at m g
    rcases m with rfl | rfl
    · exact q k t.2 (.inl (by rw [← e]; exact g))
    · exact q k t.1 (.inr (by rw [← e]; exact g))
def plK (p : Pl) : List (Int ⊕ Str) := [.inl (p.1 : Int), .inl (p.2 : Int)]
def seatsD (rs : List Nat) : D := .dT ((pls 0 rs).map plK) ((pls 0 rs).map fun p => nD (seat rs p))
def behL (rs : List Nat) : List Nat := (pls 0 rs).map fun p => seat rs (beh rs p 1)
def tabD (rs : List Nat) (ts : List (Pl × Pl)) : D := .dK [.inr "places", .inr "seats", .inr "behind", .inr "mates", .inr "numbers", .inr "floor"]
  [.lst ((pls 0 rs).map plD), seatsD rs, lD (behL rs), .lst ((mtL rs ts).map .int), .lst ((nmL rs ts).map .int), flD rs ts]
theorem foldl_pls : ∀ (u : Nat) (rs : List Nat) (s : List Pl), (rs.zipIdx u).foldl (fun s x => s ++ (List.range x.1).map fun i => (x.2, i)) s = s ++ pls u rs
  | u, [], s => by simp [pls]
  | u, r :: rs, s => by
    rw [List.zipIdx_cons, List.foldl_cons, foldl_pls (u + 1) rs, pls, List.append_assoc]
theorem ext_lst {xs ys : List D} (hl : xs.length + ys.length ≤ 1000000) : extendM h.length (.ref h.length) [.lst ys] (h ++ [(true, .lst xs)]) = .ok .non (h ++ [(true, .lst (xs ++ ys))]) := by
  simp [extendM, get_last, set_last, lstOf, okW, hl]
theorem l_places {X : D} (hX : seqF X = some (rs.map nD)) (sm : rs.sum ≤ 60) : f_law_places [X] h = .ok (.lst ((pls 0 rs).map plD)) h := by
  refine mkFn_rt (h' := h ++ [(false, .lst ((pls 0 rs).map plD))]) rfl ?_ (by simp; exact refsLts_map (refs_pl _) _) (take_last _ _)
  have q : argsL 5 [X] = [some X, none, none, none, none] := rfl
  rw [q]
  have en := enum_tup nD rs
  simp -implicitDefEqProofs [b_f_law_places, hX, en]
  have i : D.lst [] = D.lst (([] : List Pl).map plD) := rfl
  rw [i, forGo_k (fun x : Nat × Nat => .tup [nD x.2, nD x.1]) (fun _ => ⟨h.length, [some X, some (.ref h.length), none, none, none]⟩) (fun s : List Pl => h ++ [(true, D.lst (s.map plD))]) (fun s x => s ++ (List.range x.1).map fun i => (x.2, i))
    (fun s l => s.length + (l.map fun x => x.1).sum ≤ 60) (fun s x l ok => by
      have ok' : s.length + (x.1 + (l.map fun x => x.1).sum) ≤ 60 := by simpa using ok
      refine ⟨by simp; omega, fun k => ?_⟩
      have rg : ∀ m : Mi.Loc, m.v[3]? = some (some (nD x.1)) → I_rng (A_cons (E_var 3) A_nil) m (h ++ [(true, .lst (s.map plD))]) = .ok ((List.range x.1).map nD) (h ++ [(true, .lst (s.map plD))]) := fun m hm =>
        I_rng_nat x.1 (by omega) (by simp [hm]; rfl)
      have lc : lcGo (G_name 4) T_yes (E_tup (A_cons (E_var 2) (A_cons (E_var 4) A_nil))) ⟨h.length, [some X, some (.ref h.length), some (nD x.2), some (nD x.1), none]⟩ ((List.range x.1).map nD) [] (h ++ [(true, .lst (s.map plD))]) = .ok ([] ++ (List.range x.1).map fun i => plD (x.2, i)) (h ++ [(true, .lst (s.map plD))]) :=
        lcGo_k nD (fun i => plD (x.2, i)) (List.range x.1) [] (by simp; omega) (fun i hi K N => by simp [lcTurn, plD])
      have ex := ext_lst (h := h) (xs := s.map plD) (ys := (List.range x.1).map fun i => plD (x.2, i)) (by simp; omega)
      have l1 : lstOf (h ++ [(true, .lst (s.map plD))]) (.ref h.length) = some (s.map plD) := by simp [lstOf]
      simp at lc
      simp -implicitDefEqProofs [-I_rng_ap, rg, lc, l1, ex]
      simp [List.map_map, Function.comp_def]) rs.zipIdx [] (by
        have sz : ∀ (u : Nat) (l : List Nat), ((l.zipIdx u).map fun a => a.1).sum = l.sum := by
          intro u l
          induction l generalizing u with
          | nil => rfl
          | cons a l ih => simp [List.zipIdx_cons, ih]
        have := sz 0 rs
        simp; omega)]
  have := foldl_pls 0 rs []
  simp at this
  simp [this]
theorem lookD_map {α κ : Type} [DecidableEq κ] {f : α → κ} {g : α → D} : ∀ {l : List α} {a : α}, a ∈ l → (∀ b ∈ l, f b = f a → b = a) → lookD (l.map f) (l.map g) (f a) = some (g a)
  | b :: l, a, m, hi => by
    simp only [List.map_cons, lookD]
    by_cases c : f b = f a
    · rw [if_pos c, hi b List.mem_cons_self c]
    · rw [if_neg c]
      refine lookD_map ((List.mem_cons.mp m).resolve_left fun e => c (by rw [e])) fun x hx => hi x (List.mem_cons_of_mem _ hx)
theorem plK_inj {p q : Pl} (e : plK p = plK q) : p = q := by
  obtain ⟨a, b⟩ := p
  obtain ⟨c, d⟩ := q
  simp [plK] at e
  rw [Prod.mk.injEq]
  omega
theorem idx_seats {p : Pl} (m : p ∈ pls 0 rs) : idxD h (seatsD rs) (.tup [nD p.1, nD p.2]) = some (nD (seat rs p)) := by
  show ((keysOf [nD p.1, nD p.2]).map (lookD _ _)).bind id = _
  have k : keysOf [nD p.1, nD p.2] = some (plK p) := rfl
  rw [k]
  simp only [Option.map_some, Option.bind_some, id]
  exact lookD_map m fun b hb e => plK_inj e
theorem pairsOf_map {α : Type} (f g : α → D) : ∀ l : List α, pairsOf (l.map fun a => .tup [f a, g a]) = some (l.map f, l.map g)
  | [] => rfl
  | a :: l => by simp [pairsOf, pairsOf_map f g l]
theorem keysT_pl : ∀ l : List Pl, keysT (l.map plD) = some (l.map plK)
  | [] => rfl
  | p :: l => by
    have := keysT_pl l
    show (match keysOf [nD p.1, nD p.2], keysT (l.map plD) with | some k, some ks => some (k :: ks) | _, _ => none) = _
    rw [this]
    rfl
theorem map_seats {β : Type} (f : Pl → Nat → β) : (pls 0 rs).zipIdx.map (fun x => f x.1 x.2) = (pls 0 rs).map fun p => f p (seat rs p) := by
  refine List.ext_getElem (by simp) fun i h1 h2 => ?_
  simp only [List.getElem_map, List.getElem_zipIdx, Nat.zero_add]
  rw [at_seat (rs := rs) (s := i) (List.getElem?_eq_getElem (by simpa using h1))]
theorem seats_dict : dictTF false [.lst ((pls 0 rs).zipIdx.map fun x => .tup [plD x.1, nD x.2])] h = .ok (seatsD rs) h := by
  have e : (pls 0 rs).zipIdx.map (fun x => D.tup [plD x.1, nD x.2]) = (pls 0 rs).map fun p => D.tup [plD p, nD (seat rs p)] := map_seats fun p s => D.tup [plD p, nD s]
  have nd : ((pls 0 rs).map plK).Nodup := by
    rw [List.Nodup, List.pairwise_map]
    exact (pls_nodup 0 rs).imp fun {a b} h e => h (plK_inj e)
  rw [e]
  simp [dictTF, lstOf, pairsOf_map, keysT_pl, nd, seatsD]
theorem refs_seats (n : Nat) : refsLt n (seatsD rs) = true := by
  unfold seatsD
  rw [refsLt_dT']
  exact refsLts_map (fun p => refs_n _ _) _
theorem refs_ints (n : Nat) (l : List Int) : refsLts n (l.map .int) = true := refsLts_map (fun i => refsLt_int' n i) l
theorem refs_to (n : Nat) (t : Pl × Pl) : refsLt n (toD t) = true := by simp [toD, refs_pl]
theorem refs_fl (n : Nat) : refsLt n (flD rs ts) = true := by
  have h1 : refsLts n (rs.map nD) = true := refsLts_map (refs_n · n) rs
  have h2 : refsLts n (ts.map toD) = true := refsLts_map (refs_to n) ts
  simp [flD, rgsD, h1, h2]
theorem refs_tab (n : Nat) : refsLt n (tabD rs ts) = true := by
  have h1 : refsLts n ((pls 0 rs).map plD) = true := refsLts_map (refs_pl n) _
  simp [tabD, refs_seats, refs_lD, refs_ints, refs_fl, h1]
theorem beh_one {p : Pl} {n : Nat} (e1 : rs[p.1]? = some n) (e2 : p.2 < n) : beh rs p 1 = (p.1, if p.2 + 1 < n then p.2 + 1 else 0) := by
  unfold beh
  rw [e1]
  simp only [Option.getD_some]
  split
  · rw [Nat.mod_eq_of_lt (by assumption)]
  · rw [show p.2 + 1 = n by omega, Nat.mod_self]
end
end K78

namespace K78
open PySem Mi
section
variable {h : Cells} {rs : List Nat} {ts : List (Pl × Pl)} {sk : List Pl}
theorem set_two0 {xs : List D} {c : Bool × D} {s : Nat} (hs : s < xs.length) (v : D) : setD h.length (.ref h.length) (nD s) v (h ++ [(true, .lst xs), c]) = .ok .non (h ++ [(true, .lst (xs.set s v)), c]) := by
  have e : L2.ixN xs.length (s : Int) = some s := ixN_nat hs
  have g : (h ++ [(true, D.lst xs), c])[h.length]? = some (true, D.lst xs) := by simp
  have st : (h ++ [(true, D.lst xs), c]).set h.length (true, D.lst (xs.set s v)) = h ++ [(true, D.lst (xs.set s v)), c] := by
    rw [List.set_append_right _ _ (Nat.le_refl _)]; simp
  simp [setD, nD, g, e, okW, st]
theorem set_two1 {xs : List D} {c : Bool × D} {s : Nat} (hs : s < xs.length) (v : D) : setD h.length (.ref (h.length + 1)) (nD s) v (h ++ [c, (true, .lst xs)]) = .ok .non (h ++ [c, (true, .lst (xs.set s v))]) := by
  have e : L2.ixN xs.length (s : Int) = some s := ixN_nat hs
  have g : (h ++ [c, (true, D.lst xs)])[h.length + 1]? = some (true, D.lst xs) := by simp
  have st : (h ++ [c, (true, D.lst xs)]).set (h.length + 1) (true, D.lst (xs.set s v)) = h ++ [c, (true, D.lst (xs.set s v))] := by
    rw [List.set_append_right _ _ (by omega)]; simp
  simp [setD, nD, g, e, okW, st]
abbrev MN := List Int × List Int
def mnStep (rs : List Nat) (s : MN) (x : (Pl × Pl) × Nat) : MN :=
  ((s.1.set (seat rs x.1.1) (seat rs x.1.2)).set (seat rs x.1.2) (seat rs x.1.1), (s.2.set (seat rs x.1.1) x.2).set (seat rs x.1.2) x.2)
theorem mn_fold (ts : List (Pl × Pl)) : ∀ (u : Nat) (s : MN), (ts.zipIdx u).foldl (mnStep rs) s = (setI (mtP (seatsT rs ts)) s.1, setI (((seatsT rs ts).zipIdx u).flatMap fun x => [(x.1.1, (x.2 : Int)), (x.1.2, (x.2 : Int))]) s.2) := by
  induction ts with
  | nil => intro u s; rfl
  | cons t ts ih =>
    intro u s
    rw [List.zipIdx_cons, List.foldl_cons, ih (u + 1)]
    have e : seatsT rs (t :: ts) = (seat rs t.1, seat rs t.2) :: seatsT rs ts := rfl
    rw [e, List.zipIdx_cons, List.flatMap_cons]
    unfold mtP setI mnStep
    rw [List.flatMap_cons, List.foldl_append, List.foldl_append]
    rfl
theorem mn_all : ts.zipIdx.foldl (mnStep rs) (List.replicate rs.sum (-1), List.replicate rs.sum (-1)) = (mtL rs ts, nmL rs ts) := mn_fold ts 0 _
def tabC (h : Cells) (s : MN) : Cells := h ++ [(true, .lst (s.1.map .int)), (true, .lst (s.2.map .int))]
theorem atI_neg : (negD (.int 1) h) = .ok (.int (-1)) h := rfl
theorem pl_of (p : Pl) : D.tup [nD p.1, nD p.2] = plD p := rfl
theorem idx_seats' {p : Pl} (m : p ∈ pls 0 rs) : idxD h (seatsD rs) (plD p) = some (nD (seat rs p)) := idx_seats m
theorem idx_to0 (t : Pl × Pl) : idxD h (toD t) (.int 0) = some (plD t.1) := by simp [idxD, dictOf, seqOf, toD]
theorem idx_to1 (t : Pl × Pl) : idxD h (toD t) (.int 1) = some (plD t.2) := by simp [idxD, dictOf, seqOf, toD]
theorem idx_rgs {u n : Nat} (e : rs[u]? = some n) : idxD h (rgsD rs) (nD u) = some (nD n) := by
  show L2.atI (rs.map nD) (u : Int) = _
  exact atI_map e
theorem seqF_rgs : seqF (rgsD rs) = some (rs.map nD) := rfl
theorem l_table (o : OkF rs ts) : f_law_table [flD rs ts] h = .ok (tabD rs ts) h := by
  have sm := o.sm
  have lp := pls_len 0 rs
  refine mkFn_rt (h' := h ++ [(false, .lst ((mtL rs ts).map .int)), (false, .lst ((nmL rs ts).map .int))]) rfl ?_ (refs_tab _) (by simp)
  have q : argsL 14 [flD rs ts] = [some (flD rs ts), none, none, none, none, none, none, none, none, none, none, none, none, none] := rfl
  rw [q]
  have pl := l_places (h := h) (X := rgsD rs) (rs := rs) rfl sm
  have en := enum_tup plD (pls 0 rs)
  have c1 : lcGo (G_tup 2 (GS_cons (G_name 10) (GS_cons (G_name 11) GS_nil))) T_yes (E_tup (A_cons (E_var 11) (A_cons (E_var 10) A_nil))) ⟨h.length, [some (flD rs ts), some (.lst ((pls 0 rs).map plD)), none, none, none, none, none, none, none, none, none, none, none, none]⟩ ((pls 0 rs).zipIdx.map fun x => .tup [nD x.2, plD x.1]) [] h
      = .ok ([] ++ (pls 0 rs).zipIdx.map fun x => .tup [plD x.1, nD x.2]) h :=
    lcGo_k (fun x : Pl × Nat => .tup [nD x.2, plD x.1]) (fun x => .tup [plD x.1, nD x.2]) _ [] (by simp [lp]; omega) (fun x hx K N => by simp [lcTurn])
  have c2 : lcGo (G_tup 2 (GS_cons (G_name 12) (GS_cons (G_name 13) GS_nil))) T_yes (E_idx (E_var 2) (E_tup (A_cons (E_var 12) (A_cons (E_if (T_cmp (ltI fun i j => decide (i < j)) (E2 (addD false) (E_var 13) (E_c (.int 1))) (E_idx (E_idx (E_var 0) (E_c (.int 0))) (E_var 12))) (E2 (addD false) (E_var 13) (E_c (.int 1))) (E_c (.int 0))) A_nil))))
      ⟨h.length, [some (flD rs ts), some (.lst ((pls 0 rs).map plD)), some (seatsD rs), none, none, none, none, none, none, none, none, none, none, none]⟩ ((pls 0 rs).map plD) [] h = .ok ([] ++ (pls 0 rs).map fun p => nD (seat rs (beh rs p 1))) h :=
    lcGo_k plD (fun p => nD (seat rs (beh rs p 1))) _ [] (by simp [lp]; omega) (fun p hp K N => by
      obtain ⟨n, e1, e2⟩ := pl_of_mem hp
      have e3 := beh_one e1 e2
      have e4 := idx_seats (h := h) (beh_mem hp 1)
      have e5 := idx_rgs (h := h) e1
      rw [e3] at e4 ⊢
      by_cases c : p.2 + 1 < n
      · have c' : (p.2 : Int) + 1 < (n : Int) := by omega
        rw [if_pos c] at e4 ⊢
        have e6 : D.int ((p.2 : Int) + 1) = nD (p.2 + 1) := rfl
        have ad : addD false (nD p.2) (.int 1) h = .ok (nD (p.2 + 1)) h := rfl
        have lt : ltI (fun i j => decide (i < j)) h (nD (p.2 + 1)) (nD n) = some true := by
          show some (decide (((p.2 + 1 : Nat) : Int) < (n : Int))) = _
          rw [decide_eq_true (by omega)]
        simp -implicitDefEqProofs [lcTurn, plD, idx_fl0, e5, ad, lt, e4]
      · have c' : ¬ (p.2 : Int) + 1 < (n : Int) := by omega
        rw [if_neg c] at e4 ⊢
        have ad : addD false (nD p.2) (.int 1) h = .ok (nD (p.2 + 1)) h := rfl
        have lt : ltI (fun i j => decide (i < j)) h (nD (p.2 + 1)) (nD n) = some false := by
          show some (decide (((p.2 + 1 : Nat) : Int) < (n : Int))) = _
          rw [decide_eq_false (by omega)]
        have e4' : idxD h (seatsD rs) (.tup [nD p.1, .int 0]) = some (nD (seat rs (p.1, 0))) := e4
        simp -implicitDefEqProofs [lcTurn, plD, idx_fl0, e5, ad, lt, e4'])
  have sd := seats_dict (h := h) (rs := rs)
  have m1 := mul_rep (h := h) (.int (-1)) rs.sum (by omega)
  have m2 := mul_rep (h := h ++ [(true, .lst (List.replicate rs.sum (.int (-1))))]) (.int (-1)) rs.sum (by omega)
  have ll : ∀ h : Cells, lenF [.lst ((pls 0 rs).map plD)] h = .ok (.int (rs.sum : Int)) h := fun h => by simp [lenF_lst, lp]
  have tt : seqF (.tup (ts.map toD)) = some (ts.map toD) := rfl
  have en2 := enum_tup toD ts
  have key := forGo_k (vs := [6, 7, 8, 9]) (g := G_tup 2 (GS_cons (G_name 6) (GS_cons (G_name 7) GS_nil))) (b := (S_cons (S_par 8 9 (A_cons (E_idx (E_var 2) (E_idx (E_var 7) (E_c (.int 0)))) (A_cons (E_idx (E_var 2) (E_idx (E_var 7) (E_c (.int 1)))) A_nil)))
 (S_cons (S_asg (E_tup (A_cons (E_var 9) (A_cons (E_var 8) (A_cons (E_var 6) (A_cons (E_var 6) A_nil))))) (G_tup 4 (GS_cons (G_sub (E_var 4) (E_var 8)) (GS_cons (G_sub (E_var 4) (E_var 9)) (GS_cons (G_sub (E_var 5) (E_var 8)) (GS_cons (G_sub (E_var 5) (E_var 9)) GS_nil))))))
 S_nil))) (fun x : (Pl × Pl) × Nat => .tup [nD x.2, toD x.1]) (fun _ => ⟨h.length, [some (flD rs ts), some (.lst ((pls 0 rs).map plD)), some (seatsD rs), some (lD (behL rs)), some (.ref h.length), some (.ref (h.length + 1)), none, none, none, none, none, none, none, none]⟩) (tabC h) (mnStep rs) (fun s l => s.1.length = rs.sum ∧ s.2.length = rs.sum ∧ ∀ x ∈ l, x.1 ∈ ts) (fun s x l ok => by
    obtain ⟨l1, l2, hx⟩ := ok
    have m := o.t1 x.1 (hx x List.mem_cons_self)
    have p1 := okPl_iff.mp m.1
    have p2 := okPl_iff.mp m.2.1
    have s1 := seat_lt p1
    have s2 := seat_lt p2
    refine ⟨⟨by simp [mnStep, l1], by simp [mnStep, l2], fun y hy => hx y (List.mem_cons_of_mem _ hy)⟩, fun k => ?_⟩
    have a1 := idx_seats' (h := tabC h s) p1
    have a2 := idx_seats' (h := tabC h s) p2
    have w1 := set_two0 (h := h) (xs := s.1.map .int) (c := (true, .lst (s.2.map .int))) (s := seat rs x.1.1) (by simpa [l1] using s1) (nD (seat rs x.1.2))
    have w2 := set_two0 (h := h) (xs := (s.1.map D.int).set (seat rs x.1.1) (nD (seat rs x.1.2))) (c := (true, .lst (s.2.map .int))) (s := seat rs x.1.2) (by simpa [l1] using s2) (nD (seat rs x.1.1))
    have w3 := set_two1 (h := h) (xs := s.2.map .int) (c := (true, .lst (((s.1.map D.int).set (seat rs x.1.1) (nD (seat rs x.1.2))).set (seat rs x.1.2) (nD (seat rs x.1.1))))) (s := seat rs x.1.1) (by simpa [l2] using s1) (nD x.2)
    have w4 := set_two1 (h := h) (xs := (s.2.map D.int).set (seat rs x.1.1) (nD x.2)) (c := (true, .lst (((s.1.map D.int).set (seat rs x.1.1) (nD (seat rs x.1.2))).set (seat rs x.1.2) (nD (seat rs x.1.1))))) (s := seat rs x.1.2) (by simpa [l2] using s2) (nD x.2)
    have e : tabC h (mnStep rs s x) = h ++ [(true, .lst (((s.1.map D.int).set (seat rs x.1.1) (nD (seat rs x.1.2))).set (seat rs x.1.2) (nD (seat rs x.1.1)))), (true, .lst (((s.2.map D.int).set (seat rs x.1.1) (nD x.2)).set (seat rs x.1.2) (nD x.2)))] := by
      simp [tabC, mnStep, List.map_set, nD]
    unfold tabC at a1 a2 ⊢
    unfold tabC at e
    rw [e]
    simp -implicitDefEqProofs [idx_to0, idx_to1, a1, a2, w1, w2, w3, w4]) ts.zipIdx (List.replicate rs.sum (-1), List.replicate rs.sum (-1)) ⟨by simp, by simp, fun x hx => by
      have := List.mem_zipIdx' hx
      exact this.2 ▸ List.getElem_mem _⟩
  rw [mn_all] at key
  have e0 : tabC h (List.replicate rs.sum (-1), List.replicate rs.sum (-1)) = h ++ [(true, .lst (List.replicate rs.sum (.int (-1)))), (true, .lst (List.replicate rs.sum (.int (-1))))] := by simp [tabC]
  rw [e0] at key
  have f1 : (h ++ [(true, D.lst ((mtL rs ts).map .int)), (true, D.lst ((nmL rs ts).map .int))])[h.length]? = some (true, D.lst ((mtL rs ts).map .int)) := by simp
  have f2 : (h ++ [(true, D.lst ((mtL rs ts).map .int)), (true, D.lst ((nmL rs ts).map .int))]).set h.length (false, D.lst ((mtL rs ts).map .int)) = h ++ [(false, D.lst ((mtL rs ts).map .int)), (true, D.lst ((nmL rs ts).map .int))] := by
    rw [List.set_append_right _ _ (Nat.le_refl _)]; simp
  have f3 : (h ++ [(false, D.lst ((mtL rs ts).map .int)), (true, D.lst ((nmL rs ts).map .int))])[h.length + 1]? = some (true, D.lst ((nmL rs ts).map .int)) := by simp
  have f4 : (h ++ [(false, D.lst ((mtL rs ts).map .int)), (true, D.lst ((nmL rs ts).map .int))]).set (h.length + 1) (false, D.lst ((nmL rs ts).map .int)) = h ++ [(false, D.lst ((mtL rs ts).map .int)), (false, D.lst ((nmL rs ts).map .int))] := by
    rw [List.set_append_right _ _ (by omega)]; simp
  simp at c1 c2 m2
  have bl : D.lst ((pls 0 rs).map fun p => nD (seat rs (beh rs p 1))) = lD (behL rs) := by simp [lD, behL, Function.comp_def]
  unfold tabC at key
  simp only at key
  simp -implicitDefEqProofs [b_f_law_table, idx_fl0, idx_fl1, pl, en, c1, sd, c2, ll, m1, m2, bl, tt, en2, key, f1, f2, f3, f4, E_disp, dispD, keyOf, tabD]
end
end K78

namespace K78
open PySem Mi
section
variable {h : Cells} {rs : List Nat} {ts : List (Pl × Pl)} {sk : List Pl}
theorem okS (s : String) (e : PyData.strOk (Str.ofString s) = true) : keyOf (.str s) = some (.inr (Str.ofString s)) := rfl
theorem tab_places : idxD h (tabD rs ts) (.str "places") = some (.lst ((pls 0 rs).map plD)) := by simp [tabD, idxD_dK, keyOf, lookD]
theorem tab_seats : idxD h (tabD rs ts) (.str "seats") = some (seatsD rs) := by simp [tabD, idxD_dK, keyOf, lookD]
theorem tab_behind : idxD h (tabD rs ts) (.str "behind") = some (lD (behL rs)) := by simp [tabD, idxD_dK, keyOf, lookD]
theorem tab_mates : idxD h (tabD rs ts) (.str "mates") = some (.lst ((mtL rs ts).map .int)) := by simp [tabD, idxD_dK, keyOf, lookD]
theorem tab_numbers : idxD h (tabD rs ts) (.str "numbers") = some (.lst ((nmL rs ts).map .int)) := by simp [tabD, idxD_dK, keyOf, lookD]
theorem tab_floor : idxD h (tabD rs ts) (.str "floor") = some (flD rs ts) := by simp [tabD, idxD_dK, keyOf, lookD]
theorem any_nD (z : Int) : ∀ c : List Nat, ((c.map nD).any fun d => eqD d (.int z)) = c.any fun k => (k : Int) == z
  | [] => rfl
  | k :: c => by simp only [List.map_cons, List.any_cons, any_nD z c]; rfl
theorem in_call (z : Int) (c : List Nat) : inC h (.int z) (tD c) = some (c.any fun k => (k : Int) == z) := by
  have g : okD 60 (.int z) = true ∧ okD 60 (.tup (c.map nD)) = true := ⟨rfl, okD_tD 59 c⟩
  show (if okD 60 (.int z) = true ∧ okD 60 (.tup (c.map nD)) = true then some ((c.map nD).any fun d => eqD d (.int z)) else none) = _
  rw [if_pos g, any_nD]
theorem l_beat (o : OkF rs ts) {c : List Nat} (hc : ∀ k ∈ c, k < ts.length) : f_law_beat [tabD rs ts, tD c] h = .ok (tD (callL rs ts c)) h := by
  have sm := o.sm
  have lp := pls_len 0 rs
  have hc' : ∀ k ∈ c, k < (seatsT rs ts).length := by rw [seatsT_len]; exact hc
  simp -implicitDefEqProofs [f_law_beat, b_f_law_beat, mkFn, argsL, tab_behind, seqF_lD]
  rw [lcGo_k nD (fun s => nD (sgm (seatsT rs ts) c s)) (behL rs) [] (by simp [behL, lp]; omega) (fun s hs K N => by
    have hs' : s < rs.sum := by
      obtain ⟨p, hp, rfl⟩ := List.mem_map.mp hs
      exact seat_lt (beh_mem hp 1)
    have ix : ∀ {l : List Int} {z : Int}, l[s]? = some z → idxD h (.lst (l.map .int)) (nD s) = some (.int z) := fun {l z} e => by
      show L2.atI (l.map D.int) (s : Int) = _
      exact atI_map e
    by_cases q : ∃ k y, Has (seatsT rs ts) k s y
    · obtain ⟨k, y, q⟩ := q
      obtain ⟨e1, e2⟩ := mt_nm o q
      have i1 := ix e1
      have i2 := ix e2
      by_cases m : k ∈ c
      · have e3 : sgm (seatsT rs ts) c s = y := by
          unfold sgm
          rw [(swF_has (occ_seats o) hc' s y).mpr ⟨k, m, q⟩]
          rfl
        have e4 : (c.any fun j => (j : Int) == (k : Int)) = true := List.any_eq_true.mpr ⟨k, m, by simp⟩
        have ic := in_call (h := h) (k : Int) c
        rw [e4] at ic
        rw [e3]
        have en : D.int (y : Int) = nD y := rfl
        rw [en] at i1
        simp -implicitDefEqProofs [lcTurn, tab_numbers, i2, ic, tab_mates, i1]
      · have e3 : sgm (seatsT rs ts) c s = s := by
          unfold sgm
          cases z : swF (seatsT rs ts) c s with
          | none => rfl
          | some y' =>
            obtain ⟨k', m', q'⟩ := (swF_has (occ_seats o) hc' s y').mp z
            rw [(q.uniq (occ_seats o) q').1] at m
            exact absurd m' m
        have e4 : (c.any fun j => (j : Int) == (k : Int)) = false := by
          rw [Bool.eq_false_iff]
          intro t
          obtain ⟨j, hj, e⟩ := List.any_eq_true.mp t
          simp at e
          have : j = k := by omega
          exact m (this ▸ hj)
        have ic := in_call (h := h) (k : Int) c
        rw [e4] at ic
        rw [e3]
        simp -implicitDefEqProofs [lcTurn, tab_numbers, i2, ic]
    · have e2 := nm_out hs' fun k y z => q ⟨k, y, z⟩
      have i2 := ix e2
      have e3 : sgm (seatsT rs ts) c s = s := by
        unfold sgm
        cases z : swF (seatsT rs ts) c s with
        | none => rfl
        | some y' =>
          obtain ⟨k', m', q'⟩ := (swF_has (occ_seats o) hc' s y').mp z
          exact absurd ⟨k', y', q'⟩ q
      have e4 : (c.any fun j => (j : Int) == (-1 : Int)) = false := by
        rw [Bool.eq_false_iff]
        intro t
        obtain ⟨j, hj, e⟩ := List.any_eq_true.mp t
        have e' : (j : Int) = -1 := by simpa using e
        omega
      have ic := in_call (h := h) (-1) c
      rw [e4] at ic
      rw [e3]
      simp -implicitDefEqProofs [lcTurn, tab_numbers, i2, ic])]
  have e : (behL rs).map (fun s => nD (sgm (seatsT rs ts) c s)) = (callL rs ts c).map nD := by
    rw [callL_eq, behL, List.map_map, List.map_map]
    rfl
  have r := refs_tD h.length (callL rs ts c)
  simp [tD] at r
  simp [tupleF_lst, e, tD, r]
theorem app_lst {xs : List D} {v : D} (hl : xs.length < 1000000) : appendM h.length (.ref h.length) [v] (h ++ [(true, .lst xs)]) = .ok .non (h ++ [(true, .lst (xs ++ [v]))]) := by
  simp [appendM, get_last, set_last, okW, hl]
theorem skP_at (o : rs.sum ≤ 60) {u n r : Nat} (hn : rs[u]? = some n) {p : Pl} (m : p ∈ pls 0 rs) : skP rs u r p = (p.1, if p.1 = u then (p.2 + r) % n else p.2) := by
  unfold skP
  split
  · rename_i c
    rw [beh, c, hn]
    rfl
  · rfl
theorem l_skip (o : OkF rs ts) {u n r : Nat} (hn : rs[u]? = some n) : f_law_skip [tabD rs ts, nD u, nD r] h = .ok (tD (skipL rs u r)) h := by
  have sm := o.sm
  have lp := pls_len 0 rs
  have n0 : 0 < n := o.r1 n (List.mem_of_getElem? hn)
  refine mkFn_rt (h' := h ++ [(true, .lst ((pls 0 rs).map fun p => nD (seat rs (skP rs u r p))))]) rfl ?_ (refs_tD _ _) (take_last _ _)
  have q : argsL 7 [tabD rs ts, nD u, nD r] = [some (tabD rs ts), some (nD u), some (nD r), none, none, none, none] := rfl
  have e5 := idx_rgs (h := h) hn
  rw [q]
  simp -implicitDefEqProofs [b_f_law_skip, tab_floor, idx_fl0, e5, tab_places]
  have i : D.lst [] = D.lst (([] : List Nat).map nD) := rfl
  rw [i, forGo_k plD (fun _ => ⟨h.length, [some (tabD rs ts), some (nD u), some (nD r), some (nD n), some (.ref h.length), none, none]⟩) (fun s : List Nat => h ++ [(true, D.lst (s.map nD))]) (fun s p => s ++ [seat rs (skP rs u r p)])
    (fun s l => s.length + l.length ≤ 60 ∧ ∀ p ∈ l, p ∈ pls 0 rs) (fun s p l ok => by
      obtain ⟨hl, hp⟩ := ok
      have m := hp p List.mem_cons_self
      rw [List.length_cons] at hl
      refine ⟨⟨by simp; omega, fun x hx => hp x (List.mem_cons_of_mem _ hx)⟩, fun k => ?_⟩
      have e := skP_at sm (r := r) hn m
      have e4 := idx_seats (h := h ++ [(true, D.lst (s.map nD))]) (skP_mem (u := u) (r := r) m)
      have ap := app_lst (h := h) (xs := s.map nD) (v := nD (seat rs (skP rs u r p))) (by simp; omega)
      have l1 : lstOf (h ++ [(true, .lst (s.map nD))]) (.ref h.length) = some (s.map nD) := by simp [lstOf]
      rw [List.map_append, List.map_cons, List.map_nil]
      rw [e] at e4 ap ⊢
      by_cases c : p.1 = u
      · rw [if_pos c] at e4 ap ⊢
        have eq : eqC (h ++ [(true, D.lst (s.map nD))]) (nD p.1) (nD u) = some true := by simp [nD, c]
        have md : modD (.int ((p.2 : Int) + (r : Int))) (nD n) (h ++ [(true, D.lst (s.map nD))]) = .ok (nD ((p.2 + r) % n)) (h ++ [(true, D.lst (s.map nD))]) := by simp [nD, n0]
        have ad : addD false (nD p.2) (nD r) (h ++ [(true, D.lst (s.map nD))]) = .ok (.int ((p.2 : Int) + (r : Int))) (h ++ [(true, D.lst (s.map nD))]) := rfl
        simp -implicitDefEqProofs [plD, l1, tab_seats, eq, ad, md, e4, ap]
      · rw [if_neg c] at e4 ap ⊢
        have eq : eqC (h ++ [(true, D.lst (s.map nD))]) (nD p.1) (nD u) = some false := by
          have : ¬ (p.1 : Int) = (u : Int) := by omega
          simp [nD, this]
        simp -implicitDefEqProofs [plD, l1, tab_seats, eq, e4, ap]) (pls 0 rs) [] ⟨by simp [lp]; omega, fun p hp => hp⟩]
  have e := foldl_snoc (fun p => seat rs (skP rs u r p)) (pls 0 rs) []
  simp only [e, List.nil_append, List.map_map]
  rw [skipL_LF]
  simp [tupleF, lstOf, get_last, tD, LF, Function.comp_def]
theorem l_map_of (o : OkF rs ts) (ok : OkK rs sk) (n : Nat) {p : List Stp} (hT : ∀ k q, Stp.times k q ∈ p → f_law_map n [tabD rs ts, skD sk, pnD q] h = .ok (tD (mpP rs ts sk q)) h) {d : Nat} (hp : ∀ s ∈ p, OkS ts.length sk.length d s) :
    f_law_map (n + 1) [tabD rs ts, skD sk, pnD p] h = .ok (tD (mpP rs ts sk p)) h := by
  have sm := o.sm
  have lp := pls_len 0 rs
  rw [f_law_map]
  refine mkFn_rt (h' := h) rfl ?_ (refs_tD _ _) (by simp)
  have q : argsL 5 [tabD rs ts, skD sk, pnD p] = [some (tabD rs ts), some (skD sk), some (pnD p), none, none] := rfl
  have r : E_tupRg (A_cons (E_fn lenF (A_cons (E_idx (E_var 0) (E_c (.str "places"))) A_nil)) A_nil) ⟨h.length, [some (tabD rs ts), some (skD sk), some (pnD p), none, none]⟩ h = .ok (tD (List.range rs.sum)) h := by
    rw [tupRg_nat (h := h) rs.sum (by omega) (by simp [tab_places, lenF_lst, lp])]
    rfl
  have sq : seqF (pnD p) = some (p.map stD) := rfl
  rw [q]
  simp -implicitDefEqProofs [r, sq]
  rw [forGo_k stD (fun f : List Nat => ⟨h.length, [some (tabD rs ts), some (skD sk), some (pnD p), some (tD f), none]⟩) (fun _ => h) (fun f s => fol f (mpS rs ts sk s)) (fun f l => Pm rs.sum f ∧ ∀ s ∈ l, s ∈ p) (fun f s l okl => by
    have hs := okl.2 s List.mem_cons_self
    have os := hp s hs
    have m := mpS_pm (sk := sk) o os
    refine ⟨⟨okl.1.fol m, fun x hx => okl.2 x (List.mem_cons_of_mem _ hx)⟩, fun k => ?_⟩
    have fo := l_then (h := h) f (mpS rs ts sk s) (by rw [okl.1.mp.len]; omega) (fun x hx => by rw [m.mp.len]; exact okl.1.mp.lt x hx)
    cases s with
    | beat c =>
      rw [OkS] at os
      rw [mpS] at fo ⊢
      have b := l_beat (h := h) o os.lt
      rw [stD_beat]
      simp -implicitDefEqProofs [idxD_tup, ok_beat, b, fo]
    | skip j =>
      rw [OkS] at os
      rw [mpS] at fo ⊢
      have i2 := getD_sk (h := h) os
      have hm : sk.getD j (0, 0) ∈ sk := by
        rw [List.getD_eq_getElem?_getD, List.getElem?_eq_getElem os]; exact List.getElem_mem os
      generalize sk.getD j (0, 0) = g at *
      have hu := ok.u g hm
      have b := l_skip (h := h) (ts := ts) o (r := g.2) (List.getElem?_eq_getElem hu)
      rw [stD_skip]
      simp -implicitDefEqProofs [idxD_tup, ok_beat, ok_skip, ok_times, i2, idx_pl0, idx_pl1, b, fo]
    | times j p' =>
      have e := hT j p' hs
      cases d with
      | zero => rw [OkS] at os; exact os.elim
      | succ d =>
        rw [OkS] at os
        have pm : Pm rs.sum (mpP rs ts sk p') := mpQ_pm' p' _ (Pm.range _) fun s m => mpS_pm o (os.2.2 s m)
        have b := l_power (h := h) sm pm.mp j
        rw [mpS] at fo ⊢
        unfold mpP at b e
        rw [stD_times]
        simp -implicitDefEqProofs [idxD_tup, ok_beat, ok_times, e, b, fo]) p (List.range rs.sum) ⟨Pm.range _, fun s hs => hs⟩]
  simp [mpP, mpQ_foldl]
theorem l_map (o : OkF rs ts) (ok : OkK rs sk) : ∀ (d : Nat) (p : List Stp) (n : Nat), d < n → (∀ s ∈ p, OkS ts.length sk.length d s) → f_law_map n [tabD rs ts, skD sk, pnD p] h = .ok (tD (mpP rs ts sk p)) h := by
  intro d
  induction d with
  | zero =>
    intro p n hn hp
    cases n with
    | zero => omega
    | succ n => exact l_map_of o ok n (fun k q m => by have := hp _ m; rw [OkS] at this; exact this.elim) hp
  | succ d ih =>
    intro p n hn hp
    cases n with
    | zero => omega
    | succ n => exact l_map_of o ok n (fun k q m => by
        have := hp _ m
        rw [OkS] at this
        exact ih q n (by omega) this.2.2) hp
end
end K78

namespace K78
open PySem Mi
/-! draws -/
theorem deck_len (G : Deck) (rest : Cells) : (deckC G ++ rest).length = rest.length + 2 := by simp [deckC]
theorem deck_c1 (G : Deck) (rest : Cells) : (deckC G).length + rest.length = rest.length + 2 := by simp [deckC]; omega
theorem deck_c2 (G : Deck) (rest : Cells) : (deckC G).length + (rest.length + 1) = rest.length + 2 + 1 := by simp [deckC]; omega
theorem take_deck (G G' : Deck) (rest ex : Cells) : (deckC G' ++ (rest ++ ex)).take (deckC G ++ rest).length = deckC G' ++ rest := by
  rw [deck_len, ← List.append_assoc, ← deck_len G' rest]
  exact List.take_left
theorem take_deck0 (G G' : Deck) (rest : Cells) : (deckC G' ++ rest).take (deckC G ++ rest).length = deckC G' ++ rest := by
  rw [deck_len, ← deck_len G' rest]
  exact List.take_length
theorem draw_n (G : Deck) (b : Nat) (hb : 0 < b) (h2 : b ≤ 1000000) : ∃ r G', r < b ∧ ∀ rest, f_law_draw [.ref 1, nD b] (deckC G ++ rest) = .ok (nD r) (deckC G' ++ rest) := by
  obtain ⟨r, G', h0, h1, e⟩ := draw_eq G (b : Int) (by omega) (Int.lt_of_le_of_lt (Int.ofNat_le.mpr h2) (by decide))
  refine ⟨r.toNat, G', by omega, fun rest => ?_⟩
  have : nD r.toNat = .int r := by
    show D.int (r.toNat : Int) = _
    rw [Int.toNat_of_nonneg h0]
  rw [this]
  exact e rest
theorem pick {α : Type} (G : Deck) (f : α → D) (xs : List α) (x0 : α) (h0 : 0 < xs.length) (h1 : xs.length ≤ 1000) (hr : ∀ n, ∀ x ∈ xs, refsLt n (f x) = true) : ∃ r G', r < xs.length ∧ ∀ rest, f_law_pick [.ref 1, .lst (xs.map f)] (deckC G ++ rest) = .ok (f (xs.getD r x0)) (deckC G' ++ rest) := by
  obtain ⟨r, G', hr1, e⟩ := draw_n G xs.length h0 (by omega)
  refine ⟨r, G', hr1, fun rest => ?_⟩
  have ix : idxD (deckC G' ++ rest) (.lst (xs.map f)) (nD r) = some (f (xs.getD r x0)) := by
    show L2.atI (xs.map f) (r : Int) = _
    exact atI_map (by rw [List.getD_eq_getElem?_getD, List.getElem?_eq_getElem hr1]; rfl)
  have ll : lenF [.lst (xs.map f)] (deckC G ++ rest) = .ok (nD xs.length) (deckC G ++ rest) := by rw [lenF_lst]; simp [nD]
  have hm : xs.getD r x0 ∈ xs := by rw [List.getD_eq_getElem?_getD, List.getElem?_eq_getElem hr1]; exact List.getElem_mem hr1
  refine (mkFn_rt' (h' := deckC G' ++ rest) (d := f (xs.getD r x0)) rfl ?_ (hr _ _ hm)).trans (by rw [take_deck0])
  have q : argsL 2 [.ref 1, .lst (xs.map f)] = [some (.ref 1), some (.lst (xs.map f))] := rfl
  rw [q]
  simp -implicitDefEqProofs [b_f_law_pick, ll, e, ix]
theorem erase_map {α β : Type} (f : α → β) : ∀ (l : List α) (k : Nat), (l.map f).eraseIdx k = (l.eraseIdx k).map f
  | [], k => by simp
  | a :: l, 0 => rfl
  | a :: l, k + 1 => by simp [erase_map f l k]
theorem erase_perm {α : Type} : ∀ (l : List α) (k : Nat) (h : k < l.length), (l[k] :: l.eraseIdx k).Perm l
  | a :: l, 0, h => List.Perm.refl _
  | a :: l, k + 1, h => by
    have := erase_perm l k (by simpa using h)
    simp only [List.getElem_cons_succ, List.eraseIdx_cons_succ]
    exact (List.Perm.swap _ _ _).trans (this.cons a)
/-! two live lists behind the deck -/
section
variable {h0 : Cells} {L base : Nat}
theorem get_a (hL : h0.length = L) (a b : Bool × D) : (h0 ++ [a, b])[L]? = some a := by subst hL; simp
theorem get_b (hL : h0.length = L) (a b : Bool × D) : (h0 ++ [a, b])[L + 1]? = some b := by subst hL; simp
theorem set_a (hL : h0.length = L) (a b c : Bool × D) : (h0 ++ [a, b]).set L c = h0 ++ [c, b] := by
  subst hL
  rw [List.set_append_right _ _ (Nat.le_refl _)]; simp
theorem set_b (hL : h0.length = L) (a b c : Bool × D) : (h0 ++ [a, b]).set (L + 1) c = h0 ++ [a, c] := by
  subst hL
  rw [List.set_append_right _ _ (by omega)]; simp
theorem get_1 (hL : h0.length = L) (a : Bool × D) : (h0 ++ [a])[L]? = some a := by subst hL; simp
theorem set_1 (hL : h0.length = L) (a c : Bool × D) : (h0 ++ [a]).set L c = h0 ++ [c] := by
  subst hL
  rw [List.set_append_right _ _ (Nat.le_refl _)]; simp
theorem app_b (hL : h0.length = L) {xs : List D} {v : D} {a : Bool × D} (hl : xs.length < 1000000) (hw : okW base (L + 1) v = true) : appendM base (.ref (L + 1)) [v] (h0 ++ [a, (true, .lst xs)]) = .ok .non (h0 ++ [a, (true, .lst (xs ++ [v]))]) := by
  simp [appendM, get_b hL, set_b hL, hl, hw]
theorem app_1 (hL : h0.length = L) {xs : List D} {v : D} (hl : xs.length < 1000000) (hw : okW base L v = true) : appendM base (.ref L) [v] (h0 ++ [(true, .lst xs)]) = .ok .non (h0 ++ [(true, .lst (xs ++ [v]))]) := by
  simp [appendM, get_1 hL, set_1 hL, hl, hw]
theorem popAt_a (hL : h0.length = L) {xs : List Nat} {b : Bool × D} {k : Nat} (hk : k < xs.length) (hl : xs.length ≤ 1000000) : popAtM base (.ref L) [nD k] (h0 ++ [(true, .lst (xs.map nD)), b]) = .ok (nD (xs.getD k 0)) (h0 ++ [(true, .lst ((xs.eraseIdx k).map nD)), b]) := by
  have e : L2.ixN (xs.map nD).length (k : Int) = some k := ixN_nat (by simpa using hk)
  have g : (xs.map nD)[k]? = some (nD (xs.getD k 0)) := by
    rw [List.getElem?_map, List.getD_eq_getElem?_getD, List.getElem?_eq_getElem hk]; rfl
  have em := erase_map nD xs k
  have hl' : (xs.map nD).length ≤ big := by simpa using hl
  have nk : nD k = .int (k : Int) := rfl
  rw [nk]
  simp only [popAtM, get_a hL, e, g, set_a hL, em, hl', if_true]
end
/-! an order -/
structure Ord (n : Nat) (l f : List Nat) : Prop where
  nd : (f ++ l).Nodup
  lt : ∀ x ∈ f ++ l, x < n
  len : f.length + l.length = n
theorem Ord.next {n : Nat} {l f : List Nat} (o : Ord n l f) {k : Nat} (hk : k < l.length) : Ord n (l.eraseIdx k) (f ++ [l.getD k 0]) := by
  have p : ((f ++ [l.getD k 0]) ++ l.eraseIdx k).Perm (f ++ l) := by
    rw [List.append_assoc]
    refine List.Perm.append_left f ?_
    rw [List.getD_eq_getElem?_getD, List.getElem?_eq_getElem hk]
    exact erase_perm l k hk
  exact ⟨p.nodup_iff.mpr o.nd, fun x hx => o.lt x (p.mem_iff.mp hx), by
    have := o.len
    rw [List.length_append, List.length_eraseIdx_of_lt hk, List.length_singleton]
    omega⟩
theorem l_order (G : Deck) (n : Nat) (hn : n ≤ 60) (rest : Cells) : ∃ a G', Pm n a ∧ f_law_order [.ref 1, nD n] (deckC G ++ rest) = .ok (tD a) (deckC G' ++ rest) := by
  have q : argsL 5 [.ref 1, nD n] = [some (.ref 1), some (nD n), none, none, none] := rfl
  have hL : ∀ G : Deck, (deckC G ++ rest).length = rest.length + 2 := fun G => deck_len G rest
  have rl : ∀ h, ∀ m : Mi.Loc, m.v[1]? = some (some (nD n)) → E_listRg true (A_cons (E_var 1) A_nil) m h = .ok (.ref h.length) (h ++ [(true, .lst ((List.range n).map nD))]) := fun h m hm => by
    rw [listRg_nat (h := h) n (by omega) (by simp [hm]; rfl)]
    rfl
  have rg : ∀ h, ∀ m : Mi.Loc, m.v[1]? = some (some (nD n)) → I_rng (A_cons (E_var 1) A_nil) m h = .ok ((List.range n).map nD) h := fun h m hm => I_rng_nat n (by omega) (by simp [hm]; rfl)
  obtain ⟨⟨G', l', f'⟩, o', e⟩ := forGo_ex (vs := [4]) (g := G_name 4) (b := (S_cons (S_expr (E_mtL appendM (E_var 3) (A_cons (E_mtL popAtM (E_var 2) (A_cons (E_fn f_law_draw (A_cons (E_var 0) (A_cons (E_fn lenF (A_cons (E_var 2) A_nil)) A_nil))) A_nil)) A_nil)))
 S_nil)) nD (fun _ => ⟨rest.length + 2, [some (.ref 1), some (nD n), some (.ref (rest.length + 2)), some (.ref (rest.length + 2 + 1)), none]⟩) (fun s : Deck × List Nat × List Nat => deckC s.1 ++ (rest ++ [(true, D.lst (s.2.1.map nD)), (true, D.lst (s.2.2.map nD))])) (fun s l => Ord n s.2.1 s.2.2 ∧ s.2.1.length = l.length) (fun s a l ok => by
    obtain ⟨G1, l1, f1⟩ := s
    obtain ⟨o, hl⟩ := ok
    simp only at o hl ⊢
    rw [List.length_cons] at hl
    have ol := o.len
    obtain ⟨r, G2, hr, e⟩ := draw_n G1 l1.length (by omega) (by omega)
    refine ⟨(G2, l1.eraseIdx r, f1 ++ [l1.getD r 0]), ⟨o.next hr, ?_⟩, fun k => ?_⟩
    · show (l1.eraseIdx r).length = l.length
      rw [List.length_eraseIdx_of_lt hr]; omega
    · have g1 : lstOf (deckC G1 ++ (rest ++ [(true, D.lst (l1.map nD)), (true, D.lst (f1.map nD))])) (.ref (rest.length + 2 + 1)) = some (f1.map nD) := by
        simp only [lstOf]; rw [← List.append_assoc, get_b (hL G1)]
      have g2 : lstOf (deckC G1 ++ (rest ++ [(true, D.lst (l1.map nD)), (true, D.lst (f1.map nD))])) (.ref (rest.length + 2)) = some (l1.map nD) := by
        simp only [lstOf]; rw [← List.append_assoc, get_a (hL G1)]
      have g3 : lenF [.ref (rest.length + 2)] (deckC G1 ++ (rest ++ [(true, D.lst (l1.map nD)), (true, D.lst (f1.map nD))])) = .ok (nD l1.length) (deckC G1 ++ (rest ++ [(true, D.lst (l1.map nD)), (true, D.lst (f1.map nD))])) := by
        simp only [lenF, seqOf]; rw [← List.append_assoc, get_a (hL G1)]; simp [nD]
      have g4 := e (rest ++ [(true, D.lst (l1.map nD)), (true, D.lst (f1.map nD))])
      have g5 := popAt_a (base := rest.length + 2) (hL G2) (b := (true, D.lst (f1.map nD))) hr (by omega)
      have g6 := app_b (base := rest.length + 2) (hL G2) (xs := f1.map nD) (v := nD (l1.getD r 0)) (a := (true, D.lst ((l1.eraseIdx r).map nD))) (by simp; omega) (by simp [okW])
      rw [List.append_assoc, List.append_assoc] at g5 g6
      simp -implicitDefEqProofs only [List.map_append, List.map_cons, List.map_nil]
      simp -implicitDefEqProofs [g1, g2, g3, g4]
      simp at g5 g6
      simp -implicitDefEqProofs [g5, g6]) (List.range n) (G, List.range n, []) ⟨⟨List.nodup_range, fun x hx => List.mem_range.mp hx, by simp⟩, rfl⟩
  obtain ⟨o1, o2⟩ := o'
  have o2 : l' = [] := List.length_eq_zero_iff.mp o2
  have o1 : Ord n l' f' := o1
  subst o2
  simp only at e
  have len := o1.len
  have nd := o1.nd
  have lt := o1.lt
  simp at len nd lt
  refine ⟨f', G', ⟨⟨len, lt⟩, nd⟩, ?_⟩
  have l2 : (deckC G ++ (rest ++ [(true, D.lst ((List.range n).map nD))])).length = rest.length + 2 + 1 := by simp [deckC]
  have g1 : lstOf (deckC G' ++ (rest ++ [(true, D.lst []), (true, D.lst (f'.map nD))])) (.ref (rest.length + 2 + 1)) = some (f'.map nD) := by
    simp only [lstOf]; rw [← List.append_assoc, get_b (hL G')]
  simp at e
  have t1 : tupleF [.ref (rest.length + 2 + 1)] (deckC G' ++ (rest ++ [(true, D.lst []), (true, D.lst (f'.map nD))])) = .ok (tD f') (deckC G' ++ (rest ++ [(true, D.lst []), (true, D.lst (f'.map nD))])) := by
    show (match lstOf _ _ with | some xs => Res.ok (D.tup xs) _ | none => Res.stuck) = _
    rw [g1]; rfl
  have B : b_f_law_order ⟨(deckC G ++ rest).length, argsL 5 [.ref 1, nD n]⟩ (deckC G ++ rest) = .ok (.rt (tD f')) (deckC G' ++ (rest ++ [(true, D.lst []), (true, D.lst (f'.map nD))])) := by
    rw [q, hL G]
    simp -implicitDefEqProofs [-I_rng_ap, b_f_law_order, rl, rg, deck_c1, deck_c2, e, t1]
  have R := mkFn_rt' (p := 2) (n := 5) (body := b_f_law_order) rfl B (refs_tD _ _)
  rw [take_deck] at R
  exact R
end K78

namespace K78
open PySem Mi
/-! touches in order -/
theorem plLt_iff (a b : Pl) : plLt a b = true ↔ a.1 < b.1 ∨ a.1 = b.1 ∧ a.2 < b.2 := by unfold plLt; exact decide_eq_true_iff
theorem toLt_iff (a b : Pl × Pl) : toLt a b = true ↔ a.1.1 < b.1.1 ∨ a.1.1 = b.1.1 ∧ (a.1.2 < b.1.2 ∨ a.1.2 = b.1.2 ∧ (a.2.1 < b.2.1 ∨ a.2.1 = b.2.1 ∧ a.2.2 < b.2.2)) := by
  obtain ⟨⟨a1, a2⟩, a3, a4⟩ := a
  obtain ⟨⟨b1, b2⟩, b3, b4⟩ := b
  unfold toLt
  simp only [Prod.mk.injEq]
  by_cases c1 : a1 = b1 ∧ a2 = b2
  · rw [if_pos c1]
    by_cases c2 : a3 = b3 ∧ a4 = b4
    · rw [if_pos c2]; simp; omega
    · rw [if_neg c2, plLt_iff]; simp only; omega
  · rw [if_neg c1, plLt_iff]; simp only; omega
def leT (a b : Pl × Pl) : Bool := !toLt b a
theorem leT_iff (a b : Pl × Pl) : leT a b = true ↔ ¬ toLt b a = true := by unfold leT; simp
theorem leT_trans (a b c : Pl × Pl) (h1 : leT a b = true) (h2 : leT b c = true) : leT a c = true := by
  rw [leT_iff, toLt_iff] at *
  omega
theorem leT_total (a b : Pl × Pl) : (leT a b || leT b a) = true := by
  rw [Bool.or_eq_true, leT_iff, leT_iff, toLt_iff, toLt_iff]
  omega
def srt (l : List (Pl × Pl)) : List (Pl × Pl) := l.mergeSort leT
theorem srt_perm (l : List (Pl × Pl)) : (srt l).Perm l := List.mergeSort_perm l leT
theorem srt_pw (l : List (Pl × Pl)) : (srt l).Pairwise fun a b => toLt b a = false := by
  have := List.pairwise_mergeSort leT_trans leT_total l
  exact this.imp fun {a b} h => by
    unfold leT at h
    simpa using h
theorem sortD_to (l : List (Pl × Pl)) : sortD (l.map toD) = (srt l).map toD := by
  unfold sortD srt
  rw [← List.map_mergeSort]
  intro a _ b _
  show leT a b = leD (toD a) (toD b)
  unfold leT leD
  rw [toLt_lt]
def mkT (p q : Pl) : Pl × Pl := if plLt q p then (q, p) else (p, q)
theorem sortD_two (p q : Pl) : sortD [plD p, plD q] = [plD (mkT p q).1, plD (mkT p q).2] := by
  have e : leD (plD p) (plD q) = !plLt q p := by unfold leD; rw [plLt_lt]
  unfold sortD mkT
  cases c : plLt q p with
  | false =>
    rw [c] at e
    rw [if_neg Bool.false_ne_true]
    refine List.mergeSort_of_pairwise ?_
    simp [e]
  | true =>
    rw [c] at e
    rw [if_pos rfl]
    simp [List.mergeSort, List.MergeSort.Internal.splitInTwo, e]
section
variable {h : Cells} {rs : List Nat} {ts : List (Pl × Pl)} {sk : List Pl}
theorem sortOk_two (p q : Pl) : sortOk [plD p, plD q] = true := rfl
/-- the touches of an order -/
def rawT (P : List Pl) (a : List Nat) (k : Nat) : List (Pl × Pl) := (List.range k).map fun i => mkT (P.getD (a.getD (2 * i) 0) (0, 0)) (P.getD (a.getD (2 * i + 1) 0) (0, 0))
theorem idx_pls {P : List Pl} {s : Nat} (hs : s < P.length) : idxD h (.lst (P.map plD)) (nD s) = some (plD (P.getD s (0, 0))) := by
  show L2.atI (P.map plD) (s : Int) = _
  exact atI_map (by rw [List.getD_eq_getElem?_getD, List.getElem?_eq_getElem hs]; rfl)
theorem l_touched {P : List Pl} {a : List Nat} {k : Nat} (ha : Pm P.length a) (hP : P.length ≤ 60) (hk : 2 * k ≤ P.length) : f_law_touched [.lst (P.map plD), tD a, nD k] h = .ok (.tup ((srt (rawT P a k)).map toD)) h := by
  have la := ha.mp.len
  have rg : ∀ m : Mi.Loc, m.v[2]? = some (some (nD k)) → I_rng (A_cons (E_var 2) A_nil) m h = .ok ((List.range k).map nD) h := fun m hm => I_rng_nat k (by omega) (by simp [hm]; rfl)
  have s2 : sml 2 = true := by decide
  have lc : lcGo (G_name 3) T_yes (E_fn tupleF (A_cons (E_fn (sortedF false) (A_cons (E_lst false (A_cons (E_idx (E_var 0) (E_idx (E_var 1) (E2 (mulD false) (E_c (.int 2)) (E_var 3)))) (A_cons (E_idx (E_var 0) (E_idx (E_var 1) (E2 (addD false) (E2 (mulD false) (E_c (.int 2)) (E_var 3)) (E_c (.int 1))))) A_nil))) A_nil)) A_nil))
      ⟨h.length, [some (.lst (P.map plD)), some (tD a), some (nD k), none]⟩ ((List.range k).map nD) [] h = .ok ([] ++ (List.range k).map fun i => toD (mkT (P.getD (a.getD (2 * i) 0) (0, 0)) (P.getD (a.getD (2 * i + 1) 0) (0, 0)))) h :=
    lcGo_k nD _ (List.range k) [] (by simp; omega) (fun i hi K N => by
      have hi := List.mem_range.mp hi
      have m1 : mulD false (.int 2) (nD i) h = .ok (nD (2 * i)) h := by simp [nD, s2]
      have m2 : addD false (nD (2 * i)) (.int 1) h = .ok (nD (2 * i + 1)) h := rfl
      have i1 : idxD h (tD a) (nD (2 * i)) = some (nD (a.getD (2 * i) 0)) := idx_tD (by omega)
      have i2 : idxD h (tD a) (nD (2 * i + 1)) = some (nD (a.getD (2 * i + 1) 0)) := idx_tD (by omega)
      have j1 := idx_pls (h := h) (P := P) (s := a.getD (2 * i) 0) (ha.mp.lt _ (getD_mem (by omega)))
      have j2 := idx_pls (h := h) (P := P) (s := a.getD (2 * i + 1) 0) (ha.mp.lt _ (getD_mem (by omega)))
      generalize P.getD (a.getD (2 * i) 0) (0, 0) = p1 at *
      generalize P.getD (a.getD (2 * i + 1) 0) (0, 0) = p2 at *
      generalize a.getD (2 * i) 0 = x1 at *
      generalize a.getD (2 * i + 1) 0 = x2 at *
      have so : sortedF false [.lst [plD p1, plD p2]] h = .ok (.lst [plD (mkT p1 p2).1, plD (mkT p1 p2).2]) h := by
        show (if sortOk [plD p1, plD p2] = true then Mi.alloc false (.lst (sortD [plD p1, plD p2])) h else .stuck) = _
        rw [if_pos (sortOk_two p1 p2), sortD_two]; rfl
      simp -implicitDefEqProofs [lcTurn, m1, m2, i1, i2, j1, j2, so, tupleF_lst, toD])
  have so : sortedF false [.lst ((rawT P a k).map toD)] h = .ok (.lst ((srt (rawT P a k)).map toD)) h := by
    show (if sortOk ((rawT P a k).map toD) = true then Mi.alloc false (.lst (sortD ((rawT P a k).map toD))) h else .stuck) = _
    rw [if_pos (sortOk_ts _), sortD_to]; rfl
  have e : (List.range k).map (fun i => toD (mkT (P.getD (a.getD (2 * i) 0) (0, 0)) (P.getD (a.getD (2 * i + 1) 0) (0, 0)))) = (rawT P a k).map toD := by
    simp [rawT, Function.comp_def]
  rw [List.nil_append, e] at lc
  refine mkFn_rt (h' := h) rfl ?_ (by rw [refsLt_tup']; exact refsLts_map (refs_to _) _) (by simp)
  have q : argsL 4 [.lst (P.map plD), tD a, nD k] = [some (.lst (P.map plD)), some (tD a), some (nD k), none] := rfl
  rw [q]
  simp -implicitDefEqProofs [-I_rng_ap, b_f_law_touched, rg, lc, so, tupleF_lst]
/-- a floor of such touches is good -/
theorem mkT_mem {p q x : Pl} : x ∈ [(mkT p q).1, (mkT p q).2] ↔ x = p ∨ x = q := by
  unfold mkT
  split <;> simp [or_comm]
theorem touched_ok {a : List Nat} {k : Nat} (l1 : 1 ≤ rs.length) (l2 : rs.length ≤ 40) (r1 : ∀ r ∈ rs, 1 ≤ r) (sm : rs.sum ≤ 60) (ha : Pm (pls 0 rs).length a) (hk : 2 * k ≤ (pls 0 rs).length) (hk2 : k < 30) : OkF rs (srt (rawT (pls 0 rs) a k)) := by
  have la := ha.mp.len
  have pm := srt_perm (rawT (pls 0 rs) a k)
  have at_ : ∀ s, s < (pls 0 rs).length → (pls 0 rs)[s]? = some ((pls 0 rs).getD s (0, 0)) := fun s hs => by
    rw [List.getD_eq_getElem?_getD, List.getElem?_eq_getElem hs]; rfl
  have inj : ∀ i j, i < 2 * k → j < 2 * k → (pls 0 rs).getD (a.getD i 0) (0, 0) = (pls 0 rs).getD (a.getD j 0) (0, 0) → i = j := fun i j hi hj e => by
    have h1 : a.getD i 0 < (pls 0 rs).length := ha.mp.lt _ (getD_mem (by omega))
    have h2 : a.getD j 0 < (pls 0 rs).length := ha.mp.lt _ (getD_mem (by omega))
    have e1 := at_ _ h1
    have e2 := at_ _ h2
    rw [← e] at e2
    have e3 : a.getD i 0 = a.getD j 0 := by
      rw [← at_seat e1, ← at_seat e2]
    exact getD_inj ha.nd (by omega) (by omega) e3
  have mem : ∀ i, i < 2 * k → (pls 0 rs).getD (a.getD i 0) (0, 0) ∈ pls 0 rs := fun i hi => List.mem_of_getElem? (at_ _ (ha.mp.lt _ (getD_mem (by omega))))
  refine ⟨l1, l2, r1, fun t ht => ?_, srt_pw _, ?_, ?_, sm⟩
  · have ht := pm.mem_iff.mp ht
    obtain ⟨i, hi, rfl⟩ := List.mem_map.mp ht
    have hi := List.mem_range.mp hi
    have m1 := okPl_iff.mpr (mem (2 * i) (by omega))
    have m2 := okPl_iff.mpr (mem (2 * i + 1) (by omega))
    have ne : (pls 0 rs).getD (a.getD (2 * i) 0) (0, 0) ≠ (pls 0 rs).getD (a.getD (2 * i + 1) 0) (0, 0) := fun e => by
      have := inj _ _ (by omega) (by omega) e
      omega
    generalize (pls 0 rs).getD (a.getD (2 * i) 0) (0, 0) = p at *
    generalize (pls 0 rs).getD (a.getD (2 * i + 1) 0) (0, 0) = q at *
    unfold mkT
    split
    · rename_i c
      exact ⟨m2, m1, c⟩
    · rename_i c
      refine ⟨m1, m2, ?_⟩
      rw [plLt_iff] at c ⊢
      have : ¬ (p.1 = q.1 ∧ p.2 = q.2) := fun e => ne (Prod.ext e.1 e.2)
      simp only
      omega
  · have pm2 : (someP (srt (rawT (pls 0 rs) a k))).Perm (someP (rawT (pls 0 rs) a k)) := by
      unfold someP
      exact List.Perm.flatMap_right _ pm
    rw [pm2.nodup_iff]
    unfold someP
    rw [List.Nodup, List.pairwise_flatMap]
    constructor
    · intro t ht
      obtain ⟨i, hi, rfl⟩ := List.mem_map.mp ht
      have hi := List.mem_range.mp hi
      have ne : (pls 0 rs).getD (a.getD (2 * i) 0) (0, 0) ≠ (pls 0 rs).getD (a.getD (2 * i + 1) 0) (0, 0) := fun e => by
        have := inj _ _ (by omega) (by omega) e
        omega
      unfold mkT
      split
      · simp; exact fun e => ne e.symm
      · simp; exact ne
    · unfold rawT
      rw [List.pairwise_map]
      refine List.nodup_range.imp_of_mem fun {i j} hi hj hne x hx y hy e => ?_
      have hi := List.mem_range.mp hi
      have hj := List.mem_range.mp hj
      rw [mkT_mem] at hx hy
      subst e
      rcases hx with hx | hx <;> rcases hy with hy | hy <;> (have := inj _ _ (by omega) (by omega) (hx.symm.trans hy); omega)
  · rw [pm.length_eq]
    simp [rawT]
    exact hk2
end
end K78

namespace K78
open PySem Mi
theorem pickN (G : Deck) (xs : List Nat) (h0 : 0 < xs.length) (h1 : xs.length ≤ 1000) : ∃ v G', v ∈ xs ∧ ∀ rest, f_law_pick [.ref 1, .lst (xs.map nD)] (deckC G ++ rest) = .ok (nD v) (deckC G' ++ rest) := by
  obtain ⟨r, G', hr, e⟩ := pick G nD xs 0 h0 h1 (fun n x _ => refs_n _ _)
  exact ⟨xs.getD r 0, G', getD_mem hr, e⟩
section
variable {h0 : Cells} {L base : Nat}
theorem lst_1 (hL : h0.length = L) (b : Bool) (xs : List D) : lstOf (h0 ++ [(b, .lst xs)]) (.ref L) = some xs := by
  simp only [lstOf]; rw [get_1 hL]
theorem der_1 (hL : h0.length = L) (b : Bool) (xs : List D) : der (h0 ++ [(b, .lst xs)]) (.ref L) = .lst xs := by
  simp only [der]; rw [get_1 hL]
theorem last_1 (hL : h0.length = L) (b : Bool) (xs : List D) (v : D) : idxD (h0 ++ [(b, .lst (xs ++ [v]))]) (.ref L) (.int (-1)) = some v := by
  have e1 : dictOf (h0 ++ [(b, .lst (xs ++ [v]))]) (.ref L) = none := by simp only [dictOf]; rw [get_1 hL]
  have e2 : seqOf (h0 ++ [(b, .lst (xs ++ [v]))]) (.ref L) = some (xs ++ [v]) := by simp only [seqOf]; rw [get_1 hL]
  unfold idxD
  rw [e1, e2]
  exact L2.atI_last xs v
theorem frz_1 (hL : h0.length = L) (b : Bool) (xs : List D) : frzD (.ref L) (h0 ++ [(b, .lst xs)]) = .ok (.lst xs) (h0 ++ [(false, .lst xs)]) := by
  simp only [frzD]; rw [get_1 hL]; simp only; rw [set_1 hL]
theorem tup_1 (hL : h0.length = L) (b : Bool) (xs : List D) : tupleF [.ref L] (h0 ++ [(b, .lst xs)]) = .ok (.tup xs) (h0 ++ [(b, .lst xs)]) := by
  show (match lstOf _ _ with | some xs => Res.ok (D.tup xs) _ | none => Res.stuck) = _
  rw [lst_1 hL]
end
theorem okDs_nD (n : Nat) (l : List Nat) : okDs n (l.map nD) = true := okDs_map (fun a => okD_nD _ a) l
theorem l_floor (G : Deck) (most many : Nat) (hm : 5 ≤ most) (hm2 : most ≤ 20) (hy : many ≤ 20) (rest : Cells) : ∃ rs ts G', OkF rs ts ∧ rs.length ≤ 4 ∧ rs.sum ≤ most ∧ f_law_floor [.ref 1, nD most, nD many] (deckC G ++ rest) = .ok (flD rs ts) (deckC G' ++ rest) := by
  have hL : ∀ G : Deck, (deckC G ++ rest).length = rest.length + 2 := fun G => deck_len G rest
  obtain ⟨unit, G1, hu, e1⟩ := pickN G [1, 1, 2, 1, 2, 3] (by simp) (by simp)
  have hu1 : 1 ≤ unit ∧ unit ≤ 3 := by simp at hu; omega
  obtain ⟨cnt, G2, hc, e2⟩ := pickN G1 [2, 3, 2, 3, 1, 4] (by simp) (by simp)
  have hc1 : 1 ≤ cnt ∧ cnt ≤ 4 := by simp at hc; omega
  have rg : ∀ h, ∀ f : MA, ∀ m : Mi.Loc, f m h = .ok [nD cnt] h → True := fun _ _ _ _ => trivial
  obtain ⟨⟨G3, rs0, left⟩, o3, e3⟩ := forGo_ex (vs := [6, 7]) (g := G_name 6) (b := (S_cons (S_if (T_cmp (ltI fun i j => decide (j ≤ i)) (E_var 4) (E_var 5))
 (S_cons (S_set 7 (E_fn (twoF false) (A_cons (E_var 4) (A_cons (E_fn f_law_pick (A_cons (E_var 0) (A_cons (E_lst false (A_cons (E_c (.int 3)) (A_cons (E_c (.int 5)) (A_cons (E_c (.int 4)) (A_cons (E_var 1) A_nil))))) A_nil))) A_nil))))
 (S_cons (S_expr (E_mtL appendM (E_var 3) (A_cons (E2 (mulD false) (E_var 5) (E2 (addD false) (E_c (.int 1)) (E_fn f_law_draw (A_cons (E_var 0) (A_cons (E_fn (twoF true) (A_cons (E_c (.int 1)) (A_cons (E2 divD (E_var 7) (E_var 5)) A_nil))) A_nil))))) A_nil)))
 (S_cons (S_set 4 (E2 subD (E_var 4) (E_idx (E_var 3) (E1 negD (E_c (.int 1))))))
 S_nil)))
 S_nil)
 S_nil)) nD (fun s : Deck × List Nat × Nat => ⟨rest.length + 2, [some (.ref 1), some (nD most), some (nD many), some (.ref (rest.length + 2)), some (nD s.2.2), some (nD unit), none, none, none, none]⟩) (fun s => deckC s.1 ++ (rest ++ [(true, D.lst (s.2.1.map nD))])) (fun s l => s.2.1.sum + s.2.2 = most ∧ (∀ r ∈ s.2.1, 1 ≤ r) ∧ s.2.1.length + l.length ≤ 4) (fun s a l ok => by
    obtain ⟨D1, rs1, left⟩ := s
    obtain ⟨o1, o2, o3⟩ := ok
    simp only at o1 o2 o3 ⊢
    rw [List.length_cons] at o3
    by_cases c : unit ≤ left
    · obtain ⟨v, D2, hv, f1⟩ := pickN D1 [3, 5, 4, most] (by simp) (by simp)
      obtain ⟨d, D3, hd, f2⟩ := draw_n D2 (max 1 (min left v / unit)) (Nat.lt_of_lt_of_le Nat.one_pos (Nat.le_max_left _ _)) (Nat.max_le.mpr ⟨by omega, Nat.le_trans (Nat.div_le_self _ _) (Nat.le_trans (Nat.min_le_left _ _) (by omega))⟩)
      have hr : unit * (1 + d) ≤ left := by
        by_cases z : min left v / unit = 0
        · rw [z] at hd
          have : d = 0 := Nat.lt_one_iff.mp hd
          subst this
          rw [Nat.add_zero, Nat.mul_one]; exact c
        · have h1 : 1 + d ≤ min left v / unit := by
            have z' := Nat.pos_of_ne_zero z
            generalize min left v / unit = w at hd z' ⊢
            omega
          have h2 := Nat.mul_le_mul_left unit h1
          have h3 := Nat.mul_div_le (min left v) unit
          omega
      have hr0 : 1 ≤ unit * (1 + d) := Nat.mul_pos (by omega) (by omega)
      refine ⟨(D3, rs1 ++ [unit * (1 + d)], left - unit * (1 + d)), ⟨?_, ?_, ?_⟩, fun k => ?_⟩
      · simp; omega
      · intro r hr'
        rcases List.mem_append.mp hr' with z | z
        · exact o2 r z
        · simp at z; rw [z]; exact hr0
      · simp; omega
      · have f1' : f_law_pick [.ref 1, .lst [.int 3, .int 5, .int 4, nD most]] (deckC D1 ++ (rest ++ [(true, D.lst (rs1.map nD))])) = .ok (nD v) (deckC D2 ++ (rest ++ [(true, D.lst (rs1.map nD))])) := f1 _
        have f2' := f2 (rest ++ [(true, D.lst (rs1.map nD))])
        have lt : ltI (fun i j => decide (j ≤ i)) (deckC D1 ++ (rest ++ [(true, D.lst (rs1.map nD))])) (nD left) (nD unit) = some true := by simp [nD, c]
        have mn : ∀ h, twoF false [nD left, nD v] h = .ok (nD (min left v)) h := fun h => by
          show Res.ok (D.int (min (left : Int) (v : Int))) h = _
          rw [show min (left : Int) (v : Int) = ((min left v : Nat) : Int) by omega]; rfl
        have dv : ∀ h, divD (nD (min left v)) (nD unit) h = .ok (nD (min left v / unit)) h := fun h => by
          have p : posD (unit : Int) = true := posD_of (by omega) (by omega)
          show (if posD (unit : Int) = true then Res.ok (D.int (((min left v : Nat) : Int) / (unit : Int))) h else .stuck) = _
          rw [if_pos p]; rfl
        have mx : ∀ h, twoF true [.int 1, nD (min left v / unit)] h = .ok (nD (max 1 (min left v / unit))) h := fun h => by
          show Res.ok (D.int (max (1 : Int) ((min left v / unit : Nat) : Int))) h = _
          rw [show max (1 : Int) ((min left v / unit : Nat) : Int) = ((max 1 (min left v / unit) : Nat) : Int) by omega]; rfl
        have ad : ∀ h, addD false (.int 1) (nD d) h = .ok (nD (1 + d)) h := fun h => by
          show Res.ok (D.int (1 + (d : Int))) h = _
          rw [show 1 + (d : Int) = ((1 + d : Nat) : Int) by omega]; rfl
        have ml : ∀ h, mulD false (nD unit) (nD (1 + d)) h = .ok (nD (unit * (1 + d))) h := fun h => by
          have p : sml (unit : Int) = true := sml_of (by omega) (by omega)
          show (if sml (unit : Int) = true ∨ sml ((1 + d : Nat) : Int) = true then Res.ok (D.int ((unit : Int) * ((1 + d : Nat) : Int))) h else .stuck) = _
          rw [if_pos (.inl p)]
          rw [← Int.natCast_mul]; rfl
        have sb : ∀ h, subD (nD left) (nD (unit * (1 + d))) h = .ok (nD (left - unit * (1 + d))) h := fun h => by
          show Res.ok (D.int ((left : Int) - ((unit * (1 + d) : Nat) : Int))) h = _
          rw [show (left : Int) - ((unit * (1 + d) : Nat) : Int) = ((left - unit * (1 + d) : Nat) : Int) by omega]; rfl
        have g1 : ∀ G : Deck, lstOf (deckC G ++ (rest ++ [(true, D.lst (rs1.map nD))])) (.ref (rest.length + 2)) = some (rs1.map nD) := fun G => by
          rw [← List.append_assoc]; exact lst_1 (hL G) _ _
        have g2 := app_1 (base := rest.length + 2) (hL D3) (xs := rs1.map nD) (v := nD (unit * (1 + d))) (by simp; omega) (by simp [okW])
        have g3 := last_1 (hL D3) true (rs1.map nD) (nD (unit * (1 + d)))
        rw [List.append_assoc, List.append_assoc] at g2
        rw [List.append_assoc] at g3
        generalize hw : unit * (1 + d) = w at *
        rw [List.map_append, List.map_cons, List.map_nil]
        simp -implicitDefEqProofs [lt, f1', mn, g1, dv, mx, f2', ad, ml, g2, g3, sb]
    · refine ⟨(D1, rs1, left), ⟨o1, o2, by simp; omega⟩, fun k => ?_⟩
      have lt : ltI (fun i j => decide (j ≤ i)) (deckC D1 ++ (rest ++ [(true, D.lst (rs1.map nD))])) (nD left) (nD unit) = some false := by simp [nD, c]
      simp -implicitDefEqProofs [lt]) (List.range cnt) (G2, [], most) ⟨by simp, by simp, by simp; omega⟩
  obtain ⟨o31, o32, o33⟩ := o3
  simp only at o31 o32 o33 e3
  -- at least one ring
  obtain ⟨rs, G4, hrs0, hrs1, hrs2, hrs3, e4⟩ : ∃ (rs : List Nat) (G4 : Deck), 1 ≤ rs.length ∧ rs.length ≤ 4 ∧ (∀ r ∈ rs, 1 ≤ r) ∧ rs.sum ≤ most ∧ S_if (T_cmp eqC (E_var 3) (E_lst false A_nil))
   (S_cons (S_expr (E_mtL appendM (E_var 3) (A_cons (E2 (addD false) (E_c (.int 1)) (E_fn f_law_draw (A_cons (E_var 0) (A_cons (E_var 1) A_nil)))) A_nil)))
   S_nil)
   S_nil ⟨rest.length + 2, [some (.ref 1), some (nD most), some (nD many), some (.ref (rest.length + 2)), some (nD left), some (nD unit), none, none, none, none]⟩ (deckC G3 ++ (rest ++ [(true, D.lst (rs0.map nD))])) = .ok (.nx ⟨rest.length + 2, [some (.ref 1), some (nD most), some (nD many), some (.ref (rest.length + 2)), some (nD left), some (nD unit), none, none, none, none]⟩) (deckC G4 ++ (rest ++ [(true, D.lst (rs.map nD))])) := by
    have ce : eqC (deckC G3 ++ (rest ++ [(true, D.lst (rs0.map nD))])) (.ref (rest.length + 2)) (.lst []) = some rs0.isEmpty := by
      have d1 : der (deckC G3 ++ (rest ++ [(true, D.lst (rs0.map nD))])) (.ref (rest.length + 2)) = .lst (rs0.map nD) := by
        rw [← List.append_assoc]; exact der_1 (hL G3) _ _
      unfold eqC
      rw [d1]
      have k1 : okD 60 (.lst (rs0.map nD)) = true := by simp [okD, okDs_nD]
      have k2 : okD 60 (der (deckC G3 ++ (rest ++ [(true, D.lst (rs0.map nD))])) (.lst [])) = true := rfl
      rw [if_pos ⟨k1, k2⟩]
      cases rs0 <;> rfl
    cases rs0 with
    | nil =>
      obtain ⟨d, G4, hd, f⟩ := draw_n G3 most (by omega) (by omega)
      have f' := f (rest ++ [(true, D.lst [])])
      have ad : ∀ h, addD false (.int 1) (nD d) h = .ok (nD (1 + d)) h := fun h => by
        show Res.ok (D.int (1 + (d : Int))) h = _
        rw [show 1 + (d : Int) = ((1 + d : Nat) : Int) by omega]; rfl
      have g1 : ∀ G : Deck, lstOf (deckC G ++ (rest ++ [(true, D.lst [])])) (.ref (rest.length + 2)) = some [] := fun G => by
        rw [← List.append_assoc]; exact lst_1 (hL G) _ _
      have g2 := app_1 (base := rest.length + 2) (hL G4) (xs := []) (v := nD (1 + d)) (by simp) (by simp [okW])
      rw [List.append_assoc, List.append_assoc] at g2
      refine ⟨[1 + d], G4, by simp, by simp, by simp, by simp; omega, ?_⟩
      simp at ce g2
      simp -implicitDefEqProofs [ce, f', ad, g1, g2]
    | cons r rs0 =>
      refine ⟨r :: rs0, G3, by simp, by simpa using o33, o32, by omega, ?_⟩
      simp -implicitDefEqProofs only [List.isEmpty_cons] at ce
      simp -implicitDefEqProofs only [S_if_ap, T_cmp_ap, E_var_ap, E_lst_ap, A_nil_ap, Res.bind_ok, List.getElem?_cons_succ, List.getElem?_cons_zero, List.length_nil, Nat.zero_le, if_true, allocF, ce, ofOpt, Bool.false_eq_true, if_false, S_nil_ap]
  have sm : rs.sum ≤ 60 := by omega
  have lp := pls_len 0 rs
  obtain ⟨cn, G5, hcn, e5⟩ := draw_n G4 (min many (rs.sum / 2) + 1) (by omega) (by omega)
  obtain ⟨a, G6, ha, e6⟩ := l_order G5 rs.sum sm (rest ++ [(false, D.lst (rs.map nD))])
  have ok := touched_ok (rs := rs) (a := a) (k := cn) hrs0 (by omega) hrs2 sm (by rw [lp]; exact ha) (by rw [lp]; omega) (by omega)
  refine ⟨rs, srt (rawT (pls 0 rs) a cn), G6, ok, hrs1, hrs3, ?_⟩
  have tch := l_touched (h := deckC G6 ++ (rest ++ [(false, D.lst (rs.map nD))])) (P := pls 0 rs) (a := a) (k := cn) (by rw [lp]; exact ha) (by omega) (by omega)
  have fr := frz_1 (hL G4) true (rs.map nD)
  rw [List.append_assoc, List.append_assoc] at fr
  have pl := l_places (h := deckC G4 ++ (rest ++ [(false, D.lst (rs.map nD))])) (X := .lst (rs.map nD)) (rs := rs) rfl sm
  have ll : ∀ h, lenF [.lst ((pls 0 rs).map plD)] h = .ok (nD rs.sum) h := fun h => by rw [lenF_lst]; simp [nD, lp]
  have dv : ∀ h, divD (nD rs.sum) (.int 2) h = .ok (nD (rs.sum / 2)) h := fun h => by
    have p : posD 2 = true := by decide
    show (if posD 2 = true then Res.ok (D.int ((rs.sum : Int) / 2)) h else .stuck) = _
    rw [if_pos p]; rfl
  have mn : ∀ h, twoF false [nD many, nD (rs.sum / 2)] h = .ok (nD (min many (rs.sum / 2))) h := fun h => by
    show Res.ok (D.int (min (many : Int) ((rs.sum / 2 : Nat) : Int))) h = _
    rw [show min (many : Int) ((rs.sum / 2 : Nat) : Int) = ((min many (rs.sum / 2) : Nat) : Int) by omega]; rfl
  have ad : ∀ h, addD false (nD (min many (rs.sum / 2))) (.int 1) h = .ok (nD (min many (rs.sum / 2) + 1)) h := fun h => rfl
  have tp := tup_1 (hL G5) false (rs.map nD)
  rw [List.append_assoc] at tp
  have e5' := e5 (rest ++ [(false, D.lst (rs.map nD))])
  have e1' : f_law_pick [.ref 1, .lst [.int 1, .int 1, .int 2, .int 1, .int 2, .int 3]] (deckC G ++ (rest ++ [(true, D.lst [])])) = .ok (nD unit) (deckC G1 ++ (rest ++ [(true, D.lst [])])) := e1 _
  have e2' : f_law_pick [.ref 1, .lst [.int 2, .int 3, .int 2, .int 3, .int 1, .int 4]] (deckC G1 ++ (rest ++ [(true, D.lst [])])) = .ok (nD cnt) (deckC G2 ++ (rest ++ [(true, D.lst [])])) := e2 _
  have B : b_f_law_floor ⟨(deckC G ++ rest).length, argsL 10 [.ref 1, nD most, nD many]⟩ (deckC G ++ rest) = .ok (.rt (flD rs (srt (rawT (pls 0 rs) a cn)))) (deckC G6 ++ (rest ++ [(false, D.lst (rs.map nD))])) := by
    rw [hL G]
    have q : argsL 10 [.ref 1, nD most, nD many] = [some (.ref 1), some (nD most), some (nD many), none, none, none, none, none, none, none] := rfl
    rw [q]
    have rg : I_rng (A_cons (E_fn f_law_pick (A_cons (E_var 0) (A_cons (E_lst false (A_cons (E_c (.int 2)) (A_cons (E_c (.int 3)) (A_cons (E_c (.int 2)) (A_cons (E_c (.int 3)) (A_cons (E_c (.int 1)) (A_cons (E_c (.int 4)) A_nil))))))) A_nil))) A_nil) ⟨rest.length + 2, [some (.ref 1), some (nD most), some (nD many), some (.ref (rest.length + 2)), some (nD most), some (nD unit), none, none, none, none]⟩ (deckC G1 ++ (rest ++ [(true, D.lst [])])) = .ok ((List.range cnt).map nD) (deckC G2 ++ (rest ++ [(true, D.lst [])])) := by
      unfold I_rng
      simp -implicitDefEqProofs only [A_cons_ap, E_fn_ap, E_var_ap, List.getElem?_cons_zero, Res.bind_ok, E_lst_ap, E_c_ap, A_nil_ap, List.length_cons, List.length_nil, big_val, allocF]
      rw [if_pos (by decide)]
      simp -implicitDefEqProofs only [Res.bind_ok, e2', allocF]
      exact rng_ite _ (b62 cnt (by omega)) (by rw [rngD_nat]; rfl)
    unfold b_f_law_floor
    simp at e3
    simp -implicitDefEqProofs only [S_cons_ap]
    have h1 : S_par3 3 4 5 (A_cons (E_lst true A_nil) (A_cons (E_var 1) (A_cons (E_fn f_law_pick (A_cons (E_var 0) (A_cons (E_lst false (A_cons (E_c (.int 1)) (A_cons (E_c (.int 1)) (A_cons (E_c (.int 2)) (A_cons (E_c (.int 1)) (A_cons (E_c (.int 2)) (A_cons (E_c (.int 3)) A_nil))))))) A_nil))) A_nil))) ⟨rest.length + 2, [some (.ref 1), some (nD most), some (nD many), none, none, none, none, none, none, none]⟩ (deckC G ++ rest)
      = .ok (.nx ⟨rest.length + 2, [some (.ref 1), some (nD most), some (nD many), some (.ref (rest.length + 2)), some (nD most), some (nD unit), none, none, none, none]⟩) (deckC G1 ++ (rest ++ [(true, D.lst [])])) := by
      simp -implicitDefEqProofs [e1', deck_c1]
    rw [h1]
    simp -implicitDefEqProofs only [Res.seq_nx, S_cons_ap]
    have h2 : ∀ g b, S_for [6, 7] (I_rng (A_cons (E_fn f_law_pick (A_cons (E_var 0) (A_cons (E_lst false (A_cons (E_c (.int 2)) (A_cons (E_c (.int 3)) (A_cons (E_c (.int 2)) (A_cons (E_c (.int 3)) (A_cons (E_c (.int 1)) (A_cons (E_c (.int 4)) A_nil))))))) A_nil))) A_nil)) g b ⟨rest.length + 2, [some (.ref 1), some (nD most), some (nD many), some (.ref (rest.length + 2)), some (nD most), some (nD unit), none, none, none, none]⟩ (deckC G1 ++ (rest ++ [(true, D.lst [])])) = forGo [6, 7] g b ((List.range cnt).map nD) ⟨rest.length + 2, [some (.ref 1), some (nD most), some (nD many), some (.ref (rest.length + 2)), some (nD most), some (nD unit), none, none, none, none]⟩ (deckC G2 ++ (rest ++ [(true, D.lst [])])) := fun g b => by
      rw [S_for_ap, rg]; rfl
    rw [h2, e3]
    simp -implicitDefEqProofs only [Res.seq_nx, S_cons_ap]
    rw [e4]
    simp -implicitDefEqProofs only [Res.seq_nx]
    simp -implicitDefEqProofs [fr, pl, ll, dv, mn, ad, e5', tp, e6, tch]
    rfl
  have R := mkFn_rt' (p := 3) (n := 10) (body := b_f_law_floor) rfl B (refs_fl _)
  rw [take_deck] at R
  exact R
end K78

namespace K78
open PySem Mi
theorem I_rng_st {h h' : Cells} {f : MA} {m : Mi.Loc} (n : Nat) (hn : n ≤ 1000000) (e : f m h = .ok [nD n] h') : I_rng f m h = .ok ((List.range n).map nD) h' := by
  unfold I_rng
  rw [e, Res.bind_ok]
  exact rng_ite _ (b62 n hn) (by rw [rngD_nat]; rfl)
theorem S_for_of {vs : List Nat} {src : MI} {g : MG} {b : MS} {m : Mi.Loc} {h h1 : Cells} {ds : List D} (e : src m h = .ok ds h1) : S_for vs src g b m h = forGo vs g b ds m h1 := by rw [S_for_ap, e]; rfl
theorem paired_map {ls : List Nat} {ys : List D} (p : Paired (fun a y => y = nD a) ls ys) : ys = ls.map nD := by
  induction p with
  | nil => rfl
  | cons h _ ih => rw [h, ih]; rfl
section
variable {rs : List Nat} {ts : List (Pl × Pl)} {sk : List Pl}
theorem eqC_n0 (h : Cells) (n : Nat) : eqC h (nD n) (.int 0) = some (decide (n = 0)) := by
  simp [nD]
  rw [Bool.eq_iff_iff]; simp
theorem l_call (o : OkF rs ts) (G : Deck) (rest : Cells) : ∃ c G', OkC ts.length c ∧ f_law_call [.ref 1, tabD rs ts] (deckC G ++ rest) = .ok (tD c) (deckC G' ++ rest) := by
  have t4 := o.t4
  have len : ∀ h, lenF [.tup (ts.map toD)] h = .ok (nD ts.length) h := fun h => by simp [lenF_tup, nD]
  obtain ⟨G', ys, -, ⟨ls, sub, pr⟩, e⟩ := lcGo_ex (g := G_name 2) (c := T_cmp eqC (E_fn f_law_draw (A_cons (E_var 0) (A_cons (E_c (.int 2)) A_nil))) (E_c (.int 0))) (e := E_var 2) (m0 := ⟨rest.length + 2, [some (.ref 1), some (tabD rs ts), none]⟩) nD (fun G => deckC G ++ rest) (fun _ => True) (fun a y => y = nD a) (List.range ts.length) [] G (by simp; omega) trivial (fun a ha G _ => by
    obtain ⟨r, G', hr, e⟩ := draw_n G 2 (by omega) (by omega)
    have e' : f_law_draw [.ref 1, .int 2] (deckC G ++ rest) = .ok (nD r) (deckC G' ++ rest) := e rest
    refine ⟨G', if r = 0 then some (nD a) else none, trivial, fun y hy => ?_, fun K N => ?_⟩
    · split at hy
      · exact (Option.some.inj hy).symm
      · cases hy
    · have q := eqC_n0 (deckC G' ++ rest) r
      by_cases c : r = 0
      · subst c
        simp at q
        simp -implicitDefEqProofs [lcTurn, e', q]
      · simp -implicitDefEqProofs [lcTurn, e', q, c])
  have ey := paired_map pr
  subst ey
  refine ⟨ls, G', ⟨List.Pairwise.sublist sub List.pairwise_lt_range, fun k hk => List.mem_range.mp (sub.mem hk), by have := sub.length_le; simp at this; omega⟩, ?_⟩
  have rg : I_rng (A_cons (E_fn lenF (A_cons (E_idx (E_idx (E_var 1) (E_c (.str "floor"))) (E_c (.int 1))) A_nil)) A_nil) ⟨rest.length + 2, [some (.ref 1), some (tabD rs ts), none]⟩ (deckC G ++ rest) = .ok ((List.range ts.length).map nD) (deckC G ++ rest) :=
    I_rng_st _ (by omega) (by simp -implicitDefEqProofs [tab_floor, idx_fl1, len])
  have B : b_f_law_call ⟨(deckC G ++ rest).length, argsL 3 [.ref 1, tabD rs ts]⟩ (deckC G ++ rest) = .ok (.rt (tD ls)) (deckC G' ++ rest) := by
    rw [deck_len]
    have q : argsL 3 [.ref 1, tabD rs ts] = [some (.ref 1), some (tabD rs ts), none] := rfl
    rw [q]
    simp at e
    simp -implicitDefEqProofs [-I_rng_ap, b_f_law_call, rg, e, tupleF_lst, tD]
  have R := mkFn_rt' (p := 2) (n := 3) (body := b_f_law_call) rfl B (refs_tD _ _)
  rw [take_deck0] at R
  exact R
theorem neC_sk {h : Cells} (sk : List Pl) : neC h (skD sk) (.tup []) = some (!sk.isEmpty) := by
  have g : okD 60 (skD sk) = true := by
    simp only [skD, okD, Bool.and_eq_true]
    exact ⟨by simp, okDs_map (fun p => rfl) _⟩
  unfold neC eqC
  have e1 : der h (skD sk) = skD sk := rfl
  rw [e1, if_pos ⟨g, rfl⟩]
  cases sk <;> rfl
def planCell (p : List Stp) : Bool × D := (true, .lst (p.map stD))
theorem refs_tup3 (n : Nat) (a : Str) (k : Nat) (p : List Stp) : refsLt n (.tup [.str a, nD k, pnD p]) = true := by simp [refs_pnD, refs_n]
theorem l_plan (o : OkF rs ts) (hk : sk.length ≤ 60) : ∀ (n deep many : Nat), deep < n → many ≤ 4 → ∀ (G : Deck) (rest : Cells), ∃ p G', (∀ s ∈ p, OkS ts.length sk.length deep s) ∧ p.length ≤ many ∧ f_law_plan n [.ref 1, tabD rs ts, skD sk, nD deep, nD many] (deckC G ++ rest) = .ok (pnD p) (deckC G' ++ rest) := by
  intro n
  induction n with
  | zero => intro deep many hn; omega
  | succ n ih =>
    intro deep many hn hm G rest
    have hL : ∀ G : Deck, (deckC G ++ rest).length = rest.length + 2 := fun G => deck_len G rest
    obtain ⟨cnt, G1, hc, e1⟩ := draw_n G (many + 1) (by omega) (by omega)
    obtain ⟨⟨G2, p⟩, o2, e2⟩ := forGo_ex (vs := [6, 7, 8]) (g := G_name 6) (b := (S_cons (S_set 7 (E_fn f_law_draw (A_cons (E_var 0) (A_cons (E_c (.int 6)) A_nil))))
 (S_cons (S_if (T_and (T_cmp eqC (E_var 7) (E_c (.int 0))) (T_cmp (ltI fun i j => decide (j < i)) (E_var 3) (E_c (.int 0))))
 (S_cons (S_set 8 (E_fn f_law_pick (A_cons (E_var 0) (A_cons (E_lst false (A_cons (E_c (.int 0)) (A_cons (E_c (.int 1)) (A_cons (E_c (.int 2)) (A_cons (E_c (.int 3)) (A_cons (E_c (.int 5)) (A_cons (E_c (.int 12)) (A_cons (E_c (.int 1000)) (A_cons (E2 powD (E_c (.int 10)) (E_c (.int 6))) A_nil))))))))) A_nil))))
 (S_cons (S_expr (E_mtL appendM (E_var 5) (A_cons (E_tup (A_cons (E_c (.str "times")) (A_cons (E_var 8) (A_cons (E_fn (f_law_plan n) (A_cons (E_var 0) (A_cons (E_var 1) (A_cons (E_var 2) (A_cons (E2 subD (E_var 3) (E_c (.int 1))) (A_cons (E_c (.int 2)) A_nil)))))) A_nil)))) A_nil)))
 S_nil))
 (S_cons (S_if (T_and (T_cmp (ltI fun i j => decide (i < j)) (E_var 7) (E_c (.int 3))) (T_cmp neC (E_var 2) (E_tup A_nil)))
 (S_cons (S_expr (E_mtL appendM (E_var 5) (A_cons (E_tup (A_cons (E_c (.str "skip")) (A_cons (E_fn f_law_draw (A_cons (E_var 0) (A_cons (E_fn lenF (A_cons (E_var 2) A_nil)) A_nil))) A_nil))) A_nil)))
 S_nil)
 (S_cons (S_expr (E_mtL appendM (E_var 5) (A_cons (E_tup (A_cons (E_c (.str "beat")) (A_cons (E_fn f_law_call (A_cons (E_var 0) (A_cons (E_var 1) A_nil))) A_nil))) A_nil)))
 S_nil))
 S_nil))
 S_nil))) nD (fun _ => ⟨rest.length + 2, [some (.ref 1), some (tabD rs ts), some (skD sk), some (nD deep), some (nD many), some (.ref (rest.length + 2)), none, none, none]⟩) (fun s : Deck × List Stp => deckC s.1 ++ (rest ++ [(true, D.lst (s.2.map stD))])) (fun s l => s.2.length + l.length ≤ many ∧ ∀ x ∈ s.2, OkS ts.length sk.length deep x) (fun s a l ok => by
      obtain ⟨G3, p⟩ := s
      obtain ⟨ok1, ok2⟩ := ok
      simp only at ok1 ok2 ⊢
      rw [List.length_cons] at ok1
      have g1 : ∀ (G : Deck) (p : List Stp), lstOf (deckC G ++ (rest ++ [(true, D.lst (p.map stD))])) (.ref (rest.length + 2)) = some (p.map stD) := fun G p => by
        rw [← List.append_assoc]; exact lst_1 (hL G) _ _
      have g2 : ∀ (G : Deck) (v : D), refsLt (rest.length + 2) v = true → appendM (rest.length + 2) (.ref (rest.length + 2)) [v] (deckC G ++ (rest ++ [(true, D.lst (p.map stD))])) = .ok .non (deckC G ++ (rest ++ [(true, D.lst (p.map stD ++ [v]))])) := fun G v hv => by
        rw [← List.append_assoc, ← List.append_assoc]
        exact app_1 (hL G) (by simp; omega) (by simp [okW])
      obtain ⟨way, G4, hw, w1⟩ := draw_n G3 6 (by omega) (by omega)
      have w1' : f_law_draw [.ref 1, .int 6] (deckC G3 ++ (rest ++ [(true, D.lst (p.map stD))])) = .ok (nD way) (deckC G4 ++ (rest ++ [(true, D.lst (p.map stD))])) := w1 _
      have c1 : ∀ h, eqC h (nD way) (.int 0) = some (decide (way = 0)) := fun h => eqC_n0 h way
      have c2 : ∀ h, ltI (fun i j => decide (j < i)) h (nD deep) (.int 0) = some (decide (0 < deep)) := fun h => by simp [nD]
      have c3 : ∀ h, ltI (fun i j => decide (i < j)) h (nD way) (.int 3) = some (decide (way < 3)) := fun h => by
        show some (decide ((way : Int) < 3)) = _
        exact congrArg some (decide_eq_decide.mpr (by omega))
      have c4 : ∀ h, neC h (skD sk) (.tup []) = some (!sk.isEmpty) := fun h => neC_sk sk
      have fin : ∀ (st : Stp), OkS ts.length sk.length deep st → (p ++ [st]).length + l.length ≤ many ∧ ∀ x ∈ p ++ [st], OkS ts.length sk.length deep x := fun st hst => by
        refine ⟨by simp; omega, fun x hx => ?_⟩
        rcases List.mem_append.mp hx with z | z
        · exact ok2 x z
        · simp at z; rw [z]; exact hst
      by_cases cA : way = 0 ∧ 0 < deep
      · obtain ⟨cA1, cA2⟩ := cA
        obtain ⟨d, rfl⟩ : ∃ d, deep = d + 1 := ⟨deep - 1, by omega⟩
        obtain ⟨v, G5, hv, v1⟩ := pickN G4 [0, 1, 2, 3, 5, 12, 1000, 1000000] (by simp) (by simp)
        have v1' : f_law_pick [.ref 1, .lst [.int 0, .int 1, .int 2, .int 3, .int 5, .int 12, .int 1000, .int 1000000]] (deckC G4 ++ (rest ++ [(true, D.lst (p.map stD))])) = .ok (nD v) (deckC G5 ++ (rest ++ [(true, D.lst (p.map stD))])) := v1 _
        obtain ⟨q, G6, q1, q2, q3⟩ := ih d 2 (by omega) (by omega) G5 (rest ++ [(true, D.lst (p.map stD))])
        have q3' : f_law_plan n [.ref 1, tabD rs ts, skD sk, nD d, .int 2] (deckC G5 ++ (rest ++ [(true, D.lst (p.map stD))])) = .ok (pnD q) (deckC G6 ++ (rest ++ [(true, D.lst (p.map stD))])) := q3
        have sb : ∀ h, subD (nD (d + 1)) (.int 1) h = .ok (nD d) h := fun h => by
          show Res.ok (D.int (((d + 1 : Nat) : Int) - 1)) h = _
          rw [show ((d + 1 : Nat) : Int) - 1 = (d : Int) by omega]; rfl
        have pw : ∀ h, powD (.int 10) (.int 6) h = .ok (.int 1000000) h := fun h => by simp [powD, s7]
        have ap := g2 G6 (.tup [.str "times", nD v, pnD q]) (refs_tup3 _ _ _ _)
        have hv' : v ≤ 2000000 := by simp at hv; omega
        refine ⟨(G6, p ++ [.times v q]), fin _ (by rw [OkS]; exact ⟨hv', by omega, q1⟩), fun k => ?_⟩
        rw [List.map_append, List.map_cons, List.map_nil, stD_times]
        have c1z : ∀ h, eqC h (nD way) (.int 0) = some true := fun h => by rw [c1, decide_eq_true cA1]
        simp -implicitDefEqProofs [w1', c1z, c2, pw, v1', g1, sb, q3', ap]
      · have cA' : ∀ h, T_and (T_cmp eqC (E_var 7) (E_c (.int 0))) (T_cmp (ltI fun i j => decide (j < i)) (E_var 3) (E_c (.int 0))) ⟨rest.length + 2, [some (.ref 1), some (tabD rs ts), some (skD sk), some (nD deep), some (nD many), some (.ref (rest.length + 2)), some (nD a), some (nD way), none]⟩ h = .ok false h := fun h => by
          by_cases z : way = 0
          · have : ¬ 0 < deep := fun t => cA ⟨z, t⟩
            have c1z : ∀ h, eqC h (nD way) (.int 0) = some true := fun h => by rw [c1, decide_eq_true z]
            simp -implicitDefEqProofs [c1z, c2, this]
          · have c1z : ∀ h, eqC h (nD way) (.int 0) = some false := fun h => by rw [c1, decide_eq_false z]
            simp -implicitDefEqProofs [c1z]
        by_cases cB : way < 3 ∧ sk.isEmpty = false
        · obtain ⟨cB1, cB2⟩ := cB
          have sl : 0 < sk.length := by
            cases sk with
            | nil => cases cB2
            | cons _ _ => simp
          obtain ⟨j, G5, hj, j1⟩ := draw_n G4 sk.length sl (by omega)
          have j1' := j1 (rest ++ [(true, D.lst (p.map stD))])
          have ls : ∀ h, lenF [skD sk] h = .ok (nD sk.length) h := fun h => lenF_skD
          have ap := g2 G5 (.tup [.str "skip", nD j]) (by simp [refs_n])
          refine ⟨(G5, p ++ [.skip j]), fin _ (by rw [OkS]; exact hj), fun k => ?_⟩
          rw [List.map_append, List.map_cons, List.map_nil, stD_skip]
          simp -implicitDefEqProofs [-T_and_ap, w1', cA']
          simp -implicitDefEqProofs [c3, cB1, c4, cB2, ls, j1', g1, ap]
        · obtain ⟨c, G5, oc, k1⟩ := l_call o G4 (rest ++ [(true, D.lst (p.map stD))])
          have cB' : ∀ h, T_and (T_cmp (ltI fun i j => decide (i < j)) (E_var 7) (E_c (.int 3))) (T_cmp neC (E_var 2) (E_tup A_nil)) ⟨rest.length + 2, [some (.ref 1), some (tabD rs ts), some (skD sk), some (nD deep), some (nD many), some (.ref (rest.length + 2)), some (nD a), some (nD way), none]⟩ h = .ok false h := fun h => by
            by_cases z : way < 3
            · have : sk.isEmpty = true := by
                cases t : sk.isEmpty with
                | true => rfl
                | false => exact absurd ⟨z, t⟩ cB
              simp -implicitDefEqProofs [c3, c4, z, this]
            · simp -implicitDefEqProofs [c3, z]
          have ap := g2 G5 (.tup [.str "beat", tD c]) (by simp [refs_tD])
          refine ⟨(G5, p ++ [.beat c]), fin _ (by rw [OkS]; exact oc), fun k => ?_⟩
          rw [List.map_append, List.map_cons, List.map_nil, stD_beat]
          simp -implicitDefEqProofs [-T_and_ap, w1', cA', cB']
          simp -implicitDefEqProofs [k1, g1, ap]) (List.range cnt) (G1, []) ⟨by simp; omega, by simp⟩
    obtain ⟨o21, o22⟩ := o2
    simp only [List.length_nil, Nat.add_zero] at o21 o22
    refine ⟨p, G2, o22, o21, ?_⟩
    have rg : I_rng (A_cons (E_fn f_law_draw (A_cons (E_var 0) (A_cons (E2 (addD false) (E_var 4) (E_c (.int 1))) A_nil))) A_nil) ⟨rest.length + 2, [some (.ref 1), some (tabD rs ts), some (skD sk), some (nD deep), some (nD many), some (.ref (rest.length + 2)), none, none, none]⟩ (deckC G ++ (rest ++ [(true, D.lst [])])) = .ok ((List.range cnt).map nD) (deckC G1 ++ (rest ++ [(true, D.lst [])])) :=
      I_rng_st _ (by omega) (by
        have ad : ∀ h, addD false (nD many) (.int 1) h = .ok (nD (many + 1)) h := fun h => rfl
        have e1' := e1 (rest ++ [(true, D.lst [])])
        simp -implicitDefEqProofs [ad, e1'])
    simp only [List.map_nil] at e2
    have tp := tup_1 (hL G2) true (p.map stD)
    rw [List.append_assoc] at tp
    have q : argsL 9 [.ref 1, tabD rs ts, skD sk, nD deep, nD many] = [some (.ref 1), some (tabD rs ts), some (skD sk), some (nD deep), some (nD many), none, none, none, none] := rfl
    rw [f_law_plan]
    refine Eq.trans (mkFn_rt' (h := deckC G ++ rest) (d := pnD p) (h' := deckC G2 ++ (rest ++ [(true, D.lst (p.map stD))])) rfl ?_ (refs_pnD _ _)) (by rw [take_deck])
    rw [q, hL G, S_cons_ap]
    have h1 : S_set 5 (E_lst true A_nil) ⟨rest.length + 2, [some (.ref 1), some (tabD rs ts), some (skD sk), some (nD deep), some (nD many), none, none, none, none]⟩ (deckC G ++ rest) = .ok (.nx ⟨rest.length + 2, [some (.ref 1), some (tabD rs ts), some (skD sk), some (nD deep), some (nD many), some (.ref (rest.length + 2)), none, none, none]⟩) (deckC G ++ (rest ++ [(true, D.lst [])])) := by
      simp -implicitDefEqProofs [deck_c1]
    rw [h1]
    simp -implicitDefEqProofs only [Res.seq_nx, S_cons_ap]
    rw [S_for_of rg, e2]
    simp -implicitDefEqProofs [tp]
    rfl
end
end K78

namespace K78
open PySem Mi
section
variable {rs : List Nat} {ts : List (Pl × Pl)} {sk : List Pl}
def plI (p : Pl) : List Int := [(p.1 : Int), (p.2 : Int)]
theorem skips_sorted (found : List Pl) (hl : found.length ≤ 60) (hu : ∀ p ∈ found, p.1 < rs.length ∧ 1 ≤ p.2 ∧ p.2 ≤ 1000) (hrs : rs.length ≤ 40) :
    ∃ sk, OkK rs sk ∧ ((sortDedupT bigB (found.map plI)).map fun k => D.tup (k.map D.int)) = sk.map plD := by
  have gd : ∀ k ∈ found.map plI, GoodT bigB 2 k := fun k hk => by
    obtain ⟨p, hp, rfl⟩ := List.mem_map.mp hk
    obtain ⟨h1, h2, h3⟩ := hu p hp
    refine ⟨rfl, fun m hm => ?_⟩
    simp [plI] at hm
    unfold bigB
    omega
  obtain ⟨m1, m2⟩ := sortDedupT_good gd
  have back : ∀ k ∈ sortDedupT bigB (found.map plI), ∃ p ∈ found, k = plI p := fun k hk => by
    obtain ⟨p, hp, e⟩ := List.mem_map.mp ((m1 k).mp hk)
    exact ⟨p, hp, e.symm⟩
  let g : List Int → Pl := fun k => ((k.getD 0 0).toNat, (k.getD 1 0).toNat)
  have gp : ∀ p : Pl, g (plI p) = p := fun p => by simp [g, plI]
  have len : (sortDedupT bigB (found.map plI)).length ≤ found.length := by
    have : ∀ ks : List (List Int), (sortDedupT bigB ks).length ≤ ks.length := by
      intro ks
      induction ks with
      | nil => simp [sortDedupT]
      | cons k ks ih =>
        have h1 : ∀ (x : List Int) (l : List (List Int)), (insC bigB x l).length ≤ l.length + 1 := by
          intro x l
          induction l with
          | nil => simp [insC]
          | cons y r ih =>
            unfold insC
            split
            · simp
            · split
              · simp
              · simp only [List.length_cons]; omega
        have := h1 k (sortDedupT bigB ks)
        show (insC bigB k (sortDedupT bigB ks)).length ≤ ks.length + 1
        omega
    have := this (found.map plI)
    simpa using this
  refine ⟨(sortDedupT bigB (found.map plI)).map g, ⟨?_, ?_, ?_, by simp; omega⟩, ?_⟩
  · rw [List.pairwise_map]
    refine m2.imp_of_mem fun {a b} ha hb h => ?_
    obtain ⟨p, hp, rfl⟩ := back a ha
    obtain ⟨q, hq, rfl⟩ := back b hb
    rw [gp, gp, plLt_iff]
    have h1 := hu p hp
    have h2 := hu q hq
    simp [TS.code, plI, bigB] at h
    omega
  · intro s hs
    obtain ⟨k, hk, rfl⟩ := List.mem_map.mp hs
    obtain ⟨p, hp, rfl⟩ := back k hk
    rw [gp]
    exact (hu p hp).1
  · intro s hs
    obtain ⟨k, hk, rfl⟩ := List.mem_map.mp hs
    obtain ⟨p, hp, rfl⟩ := back k hk
    rw [gp]
    exact (hu p hp).2
  · rw [List.map_map]
    refine List.map_congr_left fun k hk => ?_
    obtain ⟨p, hp, rfl⟩ := back k hk
    show D.tup ((plI p).map D.int) = plD (g (plI p))
    rw [gp]
    rfl
theorem l_skips (o : OkF rs ts) (G : Deck) (rest : Cells) : ∃ sk G', OkK rs sk ∧ f_law_skips [.ref 1, rgsD rs, .int 4] (deckC G ++ rest) = .ok (skD sk) (deckC G' ++ rest) := by
  have hL : ∀ G : Deck, (deckC G ++ rest).length = rest.length + 2 := fun G => deck_len G rest
  have ol1 := o.l1
  have ol2 := o.l2
  obtain ⟨cnt, G1, hc, e1⟩ := draw_n G 5 (by omega) (by omega)
  have e1' : f_law_draw [.ref 1, .int 5] (deckC G ++ (rest ++ [(true, D.lst [])])) = .ok (nD cnt) (deckC G1 ++ (rest ++ [(true, D.lst [])])) := e1 _
  have ll : ∀ h, lenF [rgsD rs] h = .ok (nD rs.length) h := fun h => by simp [lenF, seqOf, rgsD, nD]
  obtain ⟨⟨G2, found⟩, o2, e2⟩ := forGo_ex (vs := [4, 5, 6]) (g := G_name 4) (b := (S_cons (S_set 5 (E_fn f_law_draw (A_cons (E_var 0) (A_cons (E_fn lenF (A_cons (E_var 1) A_nil)) A_nil))))
 (S_cons (S_set 6 (E_fn f_law_pick (A_cons (E_var 0) (A_cons (E_lst false (A_cons (E_c (.int 1)) (A_cons (E_c (.int 2)) (A_cons (E_c (.int 3)) (A_cons (E_idx (E_var 1) (E_var 5)) (A_cons (E2 (mulD false) (E_c (.int 2)) (E_idx (E_var 1) (E_var 5))) (A_cons (E2 (addD false) (E_c (.int 1)) (E_fn f_law_draw (A_cons (E_var 0) (A_cons (E_c (.int 1000)) A_nil)))) (A_cons (E_fn (twoF true) (A_cons (E_c (.int 1)) (A_cons (E2 divD (E_idx (E_var 1) (E_var 5)) (E_c (.int 2))) A_nil))) (A_cons (E_c (.int 6)) A_nil))))))))) A_nil))))
 (S_cons (S_expr (E_mtL appendM (E_var 3) (A_cons (E_tup (A_cons (E_var 5) (A_cons (E_var 6) A_nil))) A_nil)))
 S_nil)))) nD (fun _ => ⟨rest.length + 2, [some (.ref 1), some (rgsD rs), some (.int 4), some (.ref (rest.length + 2)), none, none, none]⟩) (fun s : Deck × List Pl => deckC s.1 ++ (rest ++ [(true, D.lst (s.2.map plD))])) (fun s l => s.2.length + l.length ≤ 4 ∧ ∀ p ∈ s.2, p.1 < rs.length ∧ 1 ≤ p.2 ∧ p.2 ≤ 1000) (fun s a l ok => by
    obtain ⟨G3, fo⟩ := s
    obtain ⟨ok1, ok2⟩ := ok
    simp only at ok1 ok2 ⊢
    rw [List.length_cons] at ok1
    obtain ⟨u, G4, hu, u1⟩ := draw_n G3 rs.length (by omega) (by omega)
    have u1' := u1 (rest ++ [(true, D.lst (fo.map plD))])
    obtain ⟨n, hn⟩ : ∃ n, rs[u]? = some n := ⟨_, List.getElem?_eq_getElem hu⟩
    have hm : n ∈ rs := List.mem_of_getElem? hn
    have n1 := o.r1 n hm
    have n2 : n ≤ 60 := Nat.le_trans (le_sum hm) o.sm
    obtain ⟨d, G5, hd, d1⟩ := draw_n G4 1000 (by omega) (by omega)
    have d1' : f_law_draw [.ref 1, .int 1000] (deckC G4 ++ (rest ++ [(true, D.lst (fo.map plD))])) = .ok (nD d) (deckC G5 ++ (rest ++ [(true, D.lst (fo.map plD))])) := d1 _
    obtain ⟨v, G6, hv, v1⟩ := pickN G5 [1, 2, 3, n, 2 * n, 1 + d, max 1 (n / 2), 6] (by simp) (by simp)
    have v1' : f_law_pick [.ref 1, .lst [.int 1, .int 2, .int 3, nD n, nD (2 * n), nD (1 + d), nD (max 1 (n / 2)), .int 6]] (deckC G5 ++ (rest ++ [(true, D.lst (fo.map plD))])) = .ok (nD v) (deckC G6 ++ (rest ++ [(true, D.lst (fo.map plD))])) := v1 _
    have hv' : 1 ≤ v ∧ v ≤ 1000 := by
      simp at hv
      rcases hv with h | h | h | h | h | h | h | h <;> (rw [h]; omega)
    have ix : ∀ h, idxD h (rgsD rs) (nD u) = some (nD n) := fun h => idx_rgs hn
    have ml : ∀ h, mulD false (.int 2) (nD n) h = .ok (nD (2 * n)) h := fun h => by
      have p : sml 2 = true := by decide
      show (if sml 2 = true ∨ sml (n : Int) = true then Res.ok (D.int (2 * (n : Int))) h else .stuck) = _
      rw [if_pos (.inl p), show 2 * (n : Int) = ((2 * n : Nat) : Int) by omega]; rfl
    have ad : ∀ h, addD false (.int 1) (nD d) h = .ok (nD (1 + d)) h := fun h => by
      show Res.ok (D.int (1 + (d : Int))) h = _
      rw [show 1 + (d : Int) = ((1 + d : Nat) : Int) by omega]; rfl
    have dv : ∀ h, divD (nD n) (.int 2) h = .ok (nD (n / 2)) h := fun h => by
      have p : posD 2 = true := by decide
      show (if posD 2 = true then Res.ok (D.int ((n : Int) / 2)) h else .stuck) = _
      rw [if_pos p]; rfl
    have mx : ∀ h, twoF true [.int 1, nD (n / 2)] h = .ok (nD (max 1 (n / 2))) h := fun h => by
      show Res.ok (D.int (max (1 : Int) ((n / 2 : Nat) : Int))) h = _
      rw [show max (1 : Int) ((n / 2 : Nat) : Int) = ((max 1 (n / 2) : Nat) : Int) by omega]; rfl
    have g1 : ∀ G : Deck, lstOf (deckC G ++ (rest ++ [(true, D.lst (fo.map plD))])) (.ref (rest.length + 2)) = some (fo.map plD) := fun G => by
      rw [← List.append_assoc]; exact lst_1 (hL G) _ _
    have g2 : ∀ (G : Deck) (w : D), appendM (rest.length + 2) (.ref (rest.length + 2)) [w] (deckC G ++ (rest ++ [(true, D.lst (fo.map plD))])) = .ok .non (deckC G ++ (rest ++ [(true, D.lst (fo.map plD ++ [w]))])) := fun G w => by
      rw [← List.append_assoc, ← List.append_assoc]
      exact app_1 (hL G) (by simp; omega) (by simp [okW])
    refine ⟨(G6, fo ++ [(u, v)]), ⟨by simp; omega, fun x hx => ?_⟩, fun k => ?_⟩
    · rcases List.mem_append.mp hx with z | z
      · exact ok2 x z
      · simp at z; rw [z]; exact ⟨hu, hv'⟩
    · rw [List.map_append, List.map_cons, List.map_nil]
      have pe : plD (u, v) = .tup [nD u, nD v] := rfl
      rw [pe]
      generalize max 1 (n / 2) = mm at *
      generalize 2 * n = nn at *
      generalize 1 + d = dd at *
      simp -implicitDefEqProofs [ll, u1', ix, ml, d1', ad, dv, mx, v1', g1, g2]) (List.range cnt) (G1, []) ⟨by simp; omega, by simp⟩
  obtain ⟨o21, o22⟩ := o2
  simp only [List.length_nil, Nat.add_zero] at o21 o22
  obtain ⟨sk, oks, es⟩ := skips_sorted (rs := rs) found (by omega) o22 ol2
  refine ⟨sk, G2, oks, ?_⟩
  have rg : I_rng (A_cons (E_fn f_law_draw (A_cons (E_var 0) (A_cons (E2 (addD false) (E_var 2) (E_c (.int 1))) A_nil))) A_nil) ⟨rest.length + 2, [some (.ref 1), some (rgsD rs), some (.int 4), some (.ref (rest.length + 2)), none, none, none]⟩ (deckC G ++ (rest ++ [(true, D.lst [])])) = .ok ((List.range cnt).map nD) (deckC G1 ++ (rest ++ [(true, D.lst [])])) :=
    I_rng_st _ (by omega) (by
      have ad : ∀ h, addD false (.int 4) (.int 1) h = .ok (.int 5) h := fun h => rfl
      simp -implicitDefEqProofs [-addD_ii, ad, e1'])
  simp only [List.map_nil] at e2
  have ss : sortSetT false (.ref (rest.length + 2)) (deckC G2 ++ (rest ++ [(true, D.lst (found.map plD))])) = .ok (.lst (sk.map plD)) (deckC G2 ++ (rest ++ [(true, D.lst (found.map plD))])) := by
    have l1 : lstOf (deckC G2 ++ (rest ++ [(true, D.lst (found.map plD))])) (.ref (rest.length + 2)) = some (found.map plD) := by
      rw [← List.append_assoc]; exact lst_1 (hL G2) _ _
    have l2 : intsOfT (found.map plD) = some (found.map plI) := intsOfT_pl found
    have gd : goodTs bigB (found.map plI) = true := by
      have go : ∀ x ∈ found.map plI, x.length = 2 ∧ ∀ m ∈ x, 0 ≤ m ∧ m < bigB := fun x hx => by
        obtain ⟨p, hp, rfl⟩ := List.mem_map.mp hx
        obtain ⟨h1, h2, h3⟩ := o22 p hp
        refine ⟨rfl, fun m hm => ?_⟩
        simp [plI] at hm
        unfold bigB
        omega
      cases hf : found.map plI with
      | nil => rfl
      | cons k r =>
        rw [hf] at go
        unfold goodTs
        have k2 := (go k List.mem_cons_self).1
        simp only [k2, Bool.and_eq_true, decide_eq_true_eq, List.all_eq_true]
        exact ⟨by omega, fun x hx => ⟨(go x hx).1, fun m hm => (go x hx).2 m hm⟩⟩
    have hl : found.length < 64 := by omega
    unfold sortSetT
    rw [l1]
    simp only [Option.bind_some, l2, List.length_map]
    rw [if_pos ⟨hl, gd⟩, es]
    rfl
  have B : b_f_law_skips ⟨(deckC G ++ rest).length, argsL 7 [.ref 1, rgsD rs, .int 4]⟩ (deckC G ++ rest) = .ok (.rt (skD sk)) (deckC G2 ++ (rest ++ [(true, D.lst (found.map plD))])) := by
    rw [hL G]
    have q : argsL 7 [.ref 1, rgsD rs, .int 4] = [some (.ref 1), some (rgsD rs), some (.int 4), none, none, none, none] := rfl
    have h1 : S_set 3 (E_lst true A_nil) ⟨rest.length + 2, [some (.ref 1), some (rgsD rs), some (.int 4), none, none, none, none]⟩ (deckC G ++ rest) = .ok (.nx ⟨rest.length + 2, [some (.ref 1), some (rgsD rs), some (.int 4), some (.ref (rest.length + 2)), none, none, none]⟩) (deckC G ++ (rest ++ [(true, D.lst [])])) := by
      simp -implicitDefEqProofs [deck_c1]
    unfold b_f_law_skips
    rw [q, S_cons_ap, h1]
    simp -implicitDefEqProofs only [Res.seq_nx, S_cons_ap]
    rw [S_for_of rg, e2]
    simp -implicitDefEqProofs [ss, tupleF_lst]
    rfl
  have R := mkFn_rt' (p := 3) (n := 7) (body := b_f_law_skips) rfl B (by rw [skD, refsLt_tup']; exact refsLts_map (refs_pl _) _)
  rw [take_deck] at R
  exact R
end
/-! the deck -/
theorem cut_to63 (xs : List D) (h : xs.length ≤ 63) : cutD xs none (some 63) = xs := by
  unfold cutD
  rw [HT.sIx_none, show (some (63 : Int)) = some ((63 : Nat) : Int) from rfl, HT.sIx_nat]
  rw [Nat.min_eq_right h]
  simp
theorem l_deck (ns : List Int) (hl : ns.length ≤ 63) : ∃ G, f_law_deck [.scr (ns.map D.int), .int 78] [] = .ok (.ref 1) (deckC G) := by
  have sl : ∀ h, sliceD false (.scr (ns.map D.int)) none (some 63) h = .ok (.lst (ns.map D.int)) h := fun h => by
    simp [sliceD, cut_to63 (ns.map D.int) (by simpa using hl)]
  have sc : sml 41358 = true := by decide
  have key := forGo_k (vs := []) (g := G_name 3) (b := (S_cons (S_set 2 (E2 modD (E_fn intF (A_cons (E2 (addD false) (E2 (addD false) (E2 (mulD false) (E_var 2) (E_c (.int 41358))) (E2 modD (E_fn intF (A_cons (E_var 3) A_nil)) (E_c (.int 2147483587)))) (E_c (.int 29))) A_nil)) (E_c (.int 2147483563))))
 S_nil)) D.int (fun s : Int × Option D => ⟨0, [some (.scr (ns.map D.int)), some (.int 78), some (.int s.1), s.2]⟩) (fun _ => []) (fun s x => ((s.1 * 41358 + x % 2147483587 + 29) % 2147483563, some (.int x))) (fun _ _ => True) (fun s x l _ => ⟨trivial, fun k => by
      simp -implicitDefEqProofs [sc]⟩) ns (10896078, none) trivial
  generalize ns.foldl (fun (s : Int × Option D) x => ((s.1 * 41358 + x % 2147483587 + 29) % 2147483563, some (D.int x))) (10896078, none) = fin at key
  obtain ⟨mx, z⟩ := fin
  simp only at key
  refine ⟨⟨ns.reverse, mx, 0, by simp; omega⟩, ?_⟩
  have lc : lcGo (G_name 3) T_yes (E_fn intF (A_cons (E_var 3) A_nil)) ⟨0, [some (.scr (ns.map D.int)), some (.int 78), some (.int mx), none]⟩ (ns.map D.int) [] [] = .ok ([] ++ ns.map D.int) [] :=
    lcGo_k D.int D.int ns [] (by simp; omega) (fun x hx K N => by simp [lcTurn])
  have rv : revD true (.lst (ns.map D.int)) [] = .ok (.ref 0) [(true, .lst (ns.reverse.map D.int))] := by
    simp [revD, lstOf, List.map_reverse]
  have B : b_f_law_deck ⟨0, argsL 4 [.scr (ns.map D.int), .int 78]⟩ [] = .ok (.rt (.ref 1)) (deckC ⟨ns.reverse, mx, 0, by simp; omega⟩) := by
    have q : argsL 4 [.scr (ns.map D.int), .int 78] = [some (.scr (ns.map D.int)), some (.int 78), none, none] := rfl
    rw [q]
    simp at lc
    simp -implicitDefEqProofs [b_f_law_deck, sl, key, lc, rv, E_disp, dispD, keyOf, deckC]
  show mkFnL 2 4 b_f_law_deck _ _ = _
  unfold mkFnL
  rw [if_pos (show [D.scr (ns.map D.int), D.int 78].length = 2 from rfl)]
  show (match b_f_law_deck ⟨0, argsL 4 [.scr (ns.map D.int), .int 78]⟩ [] with | .ok (.rt d) h' => Res.ok d h' | _ => .stuck) = _
  rw [B]
end K78

namespace K78
open PySem Mi
section
variable {rs : List Nat} {ts : List (Pl × Pl)} {sk : List Pl}
/-! plain facts about plans -/
theorem mpP_one (o : OkF rs ts) {d : Nat} {s : Stp} (os : OkS ts.length sk.length d s) : mpP rs ts sk [s] = mpS rs ts sk s := by
  have e : mpP rs ts sk [s] = fol (List.range rs.sum) (mpS rs ts sk s) := by unfold mpP; rw [mpQ_foldl]; rfl
  rw [e, range_fol (mpS_pm o os).mp.len]
theorem mpP_two (o : OkF rs ts) {d : Nat} {s s' : Stp} (os : OkS ts.length sk.length d s) : mpP rs ts sk [s, s'] = fol (mpS rs ts sk s) (mpS rs ts sk s') := by
  have e : mpP rs ts sk [s, s'] = fol (fol (List.range rs.sum) (mpS rs ts sk s)) (mpS rs ts sk s') := by unfold mpP; rw [mpQ_foldl]; rfl
  rw [e, range_fol (mpS_pm o os).mp.len]
def oneEach (m : Nat) : List Pl := (List.range m).map fun u => (u, 1)
def stepAll (m : Nat) : List Stp := (List.range m).map .skip
theorem ok_oneEach (o : OkF rs ts) : OkK rs (oneEach rs.length) := by
  refine ⟨?_, fun s hs => ?_, fun s hs => ?_, by simp [oneEach]; have := o.l2; omega⟩
  · unfold oneEach
    rw [List.pairwise_map]
    exact List.pairwise_lt_range.imp fun {a b} h => by rw [plLt_iff]; exact .inl h
  · obtain ⟨u, hu, rfl⟩ := List.mem_map.mp hs
    exact List.mem_range.mp hu
  · obtain ⟨u, hu, rfl⟩ := List.mem_map.mp hs
    simp
theorem ok_stepAll (o : OkF rs ts) : OkP ts.length (oneEach rs.length).length 2 (stepAll rs.length) := by
  refine ⟨by simp [stepAll]; exact o.l2, fun s hs => ?_⟩
  obtain ⟨u, hu, rfl⟩ := List.mem_map.mp hs
  rw [OkS]
  simpa [oneEach] using hu
theorem mp_stepAll (o : OkF rs ts) : mpP rs ts (oneEach rs.length) (stepAll rs.length) = callL rs ts [] := by
  have go : ∀ j, j ≤ rs.length → (stepAll j).foldl (fun f s => fol f (mpS rs ts (oneEach rs.length) s)) (List.range rs.sum) = LF rs fun p => if p.1 < j then beh rs p 1 else p := by
    intro j
    induction j with
    | zero =>
      intro _
      show List.range rs.sum = _
      rw [← LF_id]
      exact LF_congr fun p _ => by simp
    | succ j ih =>
      intro hj
      have e1 : stepAll (j + 1) = stepAll j ++ [.skip j] := by unfold stepAll; rw [List.range_succ, List.map_append]; rfl
      have e2 : (oneEach rs.length).getD j (0, 0) = (j, 1) := by
        rw [List.getD_eq_getElem?_getD, oneEach, List.getElem?_map, List.getElem?_range (by omega)]; rfl
      rw [e1, List.foldl_append, ih (by omega), List.foldl_cons, List.foldl_nil, mpS, e2, skipL_LF, LF_fol]
      · refine LF_congr fun p m => ?_
        unfold skP
        by_cases c1 : p.1 < j
        · have c2 : ¬ p.1 = j := by omega
          have c3 : p.1 < j + 1 := by omega
          simp [c1, c2, c3, beh]
        · by_cases c2 : p.1 = j
          · have c3 : p.1 < j + 1 := by omega
            simp [c1, c2]
          · have c3 : ¬ p.1 < j + 1 := by omega
            simp [c1, c2, c3]
      · intro p m
        show (if p.1 < j then beh rs p 1 else p) ∈ pls 0 rs
        split
        · exact beh_mem m 1
        · exact m
  unfold mpP
  rw [mpQ_foldl, go rs.length (Nat.le_refl _), callL_eq]
  unfold LF
  refine List.map_congr_left fun p hp => ?_
  obtain ⟨n, e1, e2⟩ := pl_of_mem hp
  show seat rs (if p.1 < rs.length then beh rs p 1 else p) = _
  rw [if_pos (lt_of_get e1)]
  rfl
/-! the law's last part -/
theorem l_round (o : OkF rs ts) (ok : OkK rs sk) {a : List Nat} (ha : Pm rs.sum a) (G : Deck) : ∃ G', f_law_is_round [.ref 1, flD rs ts, skD sk, tD a] (deckC G) = .ok (.bl true) (deckC G') := by
  have sm := o.sm
  have la := ha.mp.len
  have q : argsL 9 [.ref 1, flD rs ts, skD sk, tD a] = [some (.ref 1), some (flD rs ts), some (skD sk), some (tD a), none, none, none, none, none] := rfl
  have c4 : ∀ h, eqC h (skD sk) (.tup []) = some sk.isEmpty := fun h => by
    have := neC_sk (h := h) sk
    unfold neC at this
    cases e : eqC h (skD sk) (.tup []) with
    | none => rw [e] at this; cases this
    | some b =>
      rw [e] at this
      simp at this
      simp [this]
  have hL : (deckC G).length = 2 := by simp [deckC]
  cases hs : sk.isEmpty with
  | true =>
    refine ⟨G, ?_⟩
    have B : b_f_law_is_round ⟨(deckC G).length, argsL 9 [.ref 1, flD rs ts, skD sk, tD a]⟩ (deckC G) = .ok (.rt (.bl true)) (deckC G) := by
      rw [q]
      simp -implicitDefEqProofs [b_f_law_is_round, c4, hs]
    have R := mkFn_rt' (p := 4) (n := 9) (body := b_f_law_is_round) rfl B rfl
    rw [List.take_length] at R
    exact R
  | false =>
    have sl : 0 < sk.length := by
      cases sk with
      | nil => cases hs
      | cons _ _ => simp
    have skl := ok.len
    obtain ⟨i, G1, hi, e1⟩ := draw_n G sk.length sl (by omega)
    obtain ⟨j, G2, hj, e2⟩ := draw_n G1 sk.length sl (by omega)
    have e1' := e1 []
    have e2' := e2 []
    simp only [List.append_nil] at e1' e2'
    have ls : ∀ h, lenF [skD sk] h = .ok (nD sk.length) h := fun h => lenF_skD
    have i2 : ∀ h, idxD h (skD sk) (nD i) = some (plD (sk.getD i (0, 0))) := fun h => getD_sk hi
    have hm : sk.getD i (0, 0) ∈ sk := by
      rw [List.getD_eq_getElem?_getD, List.getElem?_eq_getElem hi]; exact List.getElem_mem hi
    have hmj : sk.getD j (0, 0) ∈ sk := by
      rw [List.getD_eq_getElem?_getD, List.getElem?_eq_getElem hj]; exact List.getElem_mem hj
    have hu := ok.u _ hm
    have hr := ok.r _ hm
    obtain ⟨n, hn⟩ : ∃ n, rs[(sk.getD i (0, 0)).1]? = some n := ⟨_, List.getElem?_eq_getElem hu⟩
    have n1 := o.r1 n (List.mem_of_getElem? hn)
    have n2 : n ≤ 60 := Nat.le_trans (le_sum (List.mem_of_getElem? hn)) sm
    have ix : ∀ h, idxD h (rgsD rs) (nD (sk.getD i (0, 0)).1) = some (nD n) := fun h => idx_rgs hn
    have gp : 0 < Nat.gcd n (sk.getD i (0, 0)).2 := Nat.gcd_pos_of_pos_left _ (by omega)
    have gl : Nat.gcd n (sk.getD i (0, 0)).2 ≤ n := Nat.gcd_le_left _ (by omega)
    have dv : ∀ h, divD (nD n) (nD (Nat.gcd n (sk.getD i (0, 0)).2)) h = .ok (nD (n / Nat.gcd n (sk.getD i (0, 0)).2)) h := fun h => by
      have p : posD (Nat.gcd n (sk.getD i (0, 0)).2 : Nat) = true := posD_of (by omega) (by omega)
      show (if posD (Nat.gcd n (sk.getD i (0, 0)).2 : Nat) = true then Res.ok (D.int ((n : Int) / ((Nat.gcd n (sk.getD i (0, 0)).2 : Nat) : Int))) h else .stuck) = _
      rw [if_pos p]; rfl
    have gc : ∀ h, f_law_gcd [nD n, nD (sk.getD i (0, 0)).2] h = .ok (nD (Nat.gcd n (sk.getD i (0, 0)).2)) h := fun h => l_gcd _ _
    have osi : OkS ts.length sk.length 0 (.skip i) := by rw [OkS]; exact hi
    have osj : OkS ts.length sk.length 0 (.skip j) := by rw [OkS]; exact hj
    have kle : n / Nat.gcd n (sk.getD i (0, 0)).2 ≤ n := Nat.div_le_self _ _
    have ost : OkS ts.length sk.length 1 (.times (n / Nat.gcd n (sk.getD i (0, 0)).2) [.skip i]) := by
      rw [OkS]
      exact ⟨by omega, by simp, fun s hs => by simp at hs; rw [hs]; exact osi⟩
    have m1 : mpP rs ts sk [.times (n / Nat.gcd n (sk.getD i (0, 0)).2) [.skip i]] = List.range rs.sum := by
      rw [mpP_one o ost, mpS]
      have : mpQ rs ts sk [.skip i] (List.range rs.sum) = skipL rs (sk.getD i (0, 0)).1 (sk.getD i (0, 0)).2 := by
        have := mpP_one (sk := sk) o osi
        unfold mpP at this
        rw [this, mpS]
      rw [this, skip_round _ _ n _ hn]
    have s1 : ∀ h, f_skipped_after [flD rs ts, skD sk, tD a, .tup [.tup [.str "times", nD (n / Nat.gcd n (sk.getD i (0, 0)).2), .tup [.tup [.str "skip", nD i]]]]] h = .ok (tD a) h := fun h => by
      have := skipped_after (h := h) o ok ha (d := 1) (by omega) (p := [.times (n / Nat.gcd n (sk.getD i (0, 0)).2) [.skip i]]) ⟨by simp, fun s hs => by simp at hs; rw [hs]; exact ost⟩
      rw [m1, led_range la] at this
      have e : pnD [.times (n / Nat.gcd n (sk.getD i (0, 0)).2) [.skip i]] = .tup [.tup [.str "times", nD (n / Nat.gcd n (sk.getD i (0, 0)).2), .tup [.tup [.str "skip", nD i]]]] := by
        simp only [pnD, List.map_cons, List.map_nil, stD_times, stD_skip]
      rw [e] at this
      exact this
    have two : ∀ (i j : Nat), OkS ts.length sk.length 0 (.skip i) → OkS ts.length sk.length 0 (.skip j) → ∀ h, f_skipped_after [flD rs ts, skD sk, tD a, .tup [.tup [.str "skip", nD i], .tup [.str "skip", nD j]]] h = .ok (tD (ledL a (fol (mpS rs ts sk (.skip i)) (mpS rs ts sk (.skip j))))) h := fun i j hi hj h => by
      have := skipped_after (h := h) o ok ha (d := 0) (by omega) (p := [.skip i, .skip j]) ⟨by simp, fun s hs => by
        simp at hs
        rcases hs with rfl | rfl
        · exact hi
        · exact hj⟩
      rw [mpP_two o hi] at this
      have e : pnD [.skip i, .skip j] = .tup [.tup [.str "skip", nD i], .tup [.str "skip", nD j]] := by
        simp only [pnD, List.map_cons, List.map_nil, stD_skip]
      rw [e] at this
      exact this
    have t1 := two i j osi osj
    have t2 := two j i osj osi
    have cm : fol (mpS rs ts sk (.skip j)) (mpS rs ts sk (.skip i)) = fol (mpS rs ts sk (.skip i)) (mpS rs ts sk (.skip j)) := by
      rw [mpS, mpS]
      exact skip_comm _ _ _ _ _
    rw [cm] at t2
    have pmf := (mpS_pm (sk := sk) o osi).fol (mpS_pm (sk := sk) o osj)
    have ll := (ledL_spec pmf la).1
    have sa1 : ∀ h, f_law_same 12 [tD a, tD a] h = .ok (.bl true) h := fun h => l_same 10 a (by omega)
    have sa2 : ∀ h, f_law_same 12 [tD (ledL a (fol (mpS rs ts sk (.skip i)) (mpS rs ts sk (.skip j)))), tD (ledL a (fol (mpS rs ts sk (.skip i)) (mpS rs ts sk (.skip j))))] h = .ok (.bl true) h := fun h => l_same 10 _ (by omega)
    generalize sk.getD i (0, 0) = g at *
    generalize ledL a (fol (mpS rs ts sk (.skip i)) (mpS rs ts sk (.skip j))) = two' at *
    generalize n / Nat.gcd n g.2 = K at *
    generalize Nat.gcd n g.2 = GG at *
    have B : b_f_law_is_round ⟨(deckC G).length, argsL 9 [.ref 1, flD rs ts, skD sk, tD a]⟩ (deckC G) = .ok (.rt (.bl true)) (deckC G2) := by
      rw [q]
      simp -implicitDefEqProofs [b_f_law_is_round, c4, hs, ls, e1', e2', idx_fl0, i2, idx_pl0, idx_pl1, ix, gc, dv, s1, sa1, t1, t2, sa2]
    have R := mkFn_rt' (p := 4) (n := 9) (body := b_f_law_is_round) rfl B rfl
    have e : (deckC G2).take (deckC G).length = deckC G2 := by
      rw [hL, ← show (deckC G2).length = 2 by simp [deckC], List.take_length]
    rw [e] at R
    exact ⟨G2, R⟩
theorem law_true (ns : List Int) (hl : ns.length ≤ 63) : ∃ h', f_law [.scr (ns.map D.int)] [] = .ok (.bl true) h' := by
  obtain ⟨G0, e0⟩ := l_deck ns hl
  obtain ⟨most, G1, hm, e1⟩ := pickN G0 [10, 6, 8, 5] (by simp) (by simp)
  have hm' : 5 ≤ most ∧ most ≤ 20 := by simp at hm; omega
  have e1' : f_law_pick [.ref 1, .lst [.int 10, .int 6, .int 8, .int 5]] (deckC G0) = .ok (nD most) (deckC G1) := by
    have := e1 []
    simp only [List.append_nil] at this
    exact this
  obtain ⟨rs, ts, G2, o, hr4, hrm, e2⟩ := l_floor G1 most 5 hm'.1 hm'.2 (by omega) []
  simp only [List.append_nil] at e2
  have e2' : f_law_floor [.ref 1, nD most, .int 5] (deckC G1) = .ok (flD rs ts) (deckC G2) := e2
  have sm := o.sm
  have tb : ∀ h, f_law_table [flD rs ts] h = .ok (tabD rs ts) h := fun h => l_table o
  obtain ⟨sk, G3, ok, e3⟩ := l_skips o G2 []
  simp only [List.append_nil] at e3
  have ll : ∀ h, lenF [.lst ((pls 0 rs).map plD)] h = .ok (nD rs.sum) h := fun h => by rw [lenF_lst]; simp [nD, pls_len]
  obtain ⟨one, G4, h1, e4⟩ := l_order G3 rs.sum sm []
  simp only [List.append_nil] at e4
  obtain ⟨p, G5, op, lp, e5⟩ := l_plan (sk := sk) o ok.len 6 2 4 (by omega) (by omega) G4 []
  simp only [List.append_nil] at e5
  have e5' : f_law_plan 6 [.ref 1, tabD rs ts, skD sk, .int 2, .int 4] (deckC G4) = .ok (pnD p) (deckC G5) := e5
  obtain ⟨q, G6, oq, lq, e6⟩ := l_plan (sk := sk) o ok.len 6 2 4 (by omega) (by omega) G5 []
  simp only [List.append_nil] at e6
  have e6' : f_law_plan 6 [.ref 1, tabD rs ts, skD sk, .int 2, .int 4] (deckC G5) = .ok (pnD q) (deckC G6) := e6
  have oP : OkP ts.length sk.length 2 p := ⟨by omega, op⟩
  have oQ : OkP ts.length sk.length 2 q := ⟨by omega, oq⟩
  have oPQ : OkP ts.length sk.length 2 (p ++ q) := ⟨by simp; omega, fun s hs => (List.mem_append.mp hs).elim (op s) (oq s)⟩
  have pp := mpP_pm (sk := sk) o oP
  have pq := mpP_pm (sk := sk) o oQ
  have mp : ∀ h, f_law_map 6 [tabD rs ts, skD sk, pnD p] h = .ok (tD (mpP rs ts sk p)) h := fun h => l_map o ok 2 p 6 (by omega) op
  have mq : ∀ h, f_law_map 6 [tabD rs ts, skD sk, pnD q] h = .ok (tD (mpP rs ts sk q)) h := fun h => l_map o ok 2 q 6 (by omega) oq
  have h2 := ledL_pm h1 pp
  have h3 := ledL_pm h2 pq
  have ld1 : ∀ h, f_law_led [tD one, tD (mpP rs ts sk p)] h = .ok (tD (ledL one (mpP rs ts sk p))) h := fun h => l_led pp h1.mp.len sm
  have ld2 : ∀ h, f_law_led [tD (ledL one (mpP rs ts sk p)), tD (mpP rs ts sk q)] h = .ok (tD (ledL (ledL one (mpP rs ts sk p)) (mpP rs ts sk q))) h := fun h => l_led pq h2.mp.len sm
  have a1 : ∀ h, f_skipped_after [flD rs ts, skD sk, tD one, pnD p] h = .ok (tD (ledL one (mpP rs ts sk p))) h := fun h => skipped_after o ok h1 (by omega) oP
  have a2 : ∀ h, f_skipped_after [flD rs ts, skD sk, tD one, pnD (p ++ q)] h = .ok (tD (ledL (ledL one (mpP rs ts sk p)) (mpP rs ts sk q))) h := fun h => by
    rw [skipped_after o ok h1 (by omega) oPQ, mpP_app o oP oQ, led_led h1.mp.len pp pq]
  have a3 : ∀ h, f_skipped_after [flD rs ts, skD sk, tD (ledL one (mpP rs ts sk p)), pnD q] h = .ok (tD (ledL (ledL one (mpP rs ts sk p)) (mpP rs ts sk q))) h := fun h => skipped_after o ok h2 (by omega) oQ
  have ap : ∀ h, addD false (pnD p) (pnD q) h = .ok (pnD (p ++ q)) h := fun h => by
    show (if (p.map stD).length + (q.map stD).length ≤ big then Res.ok (D.tup (p.map stD ++ q.map stD)) h else .stuck) = _
    rw [if_pos (by simp; omega), pnD, List.map_append]
  have sa : ∀ (a : List Nat), Pm rs.sum a → ∀ h, f_law_same 12 [tD a, tD a] h = .ok (.bl true) h := fun a ha h => l_same 10 a (by rw [ha.mp.len]; exact sm)
  have sa1 := sa _ h2
  have sa2 := sa _ h3
  obtain ⟨k, G7, hk, e7⟩ := pickN G6 [0, 1, 2, 1000000, 7] (by simp) (by simp)
  have hk' : k ≤ 2000000 := by simp at hk; omega
  have e7' : f_law_pick [.ref 1, .lst [.int 0, .int 1, .int 2, .int 1000000, .int 7]] (deckC G6) = .ok (nD k) (deckC G7) := by
    have := e7 []
    simp only [List.append_nil] at this
    exact this
  have pw6 : ∀ h, powD (.int 10) (.int 6) h = .ok (.int 1000000) h := fun h => by simp [powD, s7]
  have pk : ∀ h, f_law_power [tD (mpP rs ts sk p), nD k] h = .ok (tD (pw k (List.range rs.sum) (mpP rs ts sk p))) h := fun h => l_power sm pp.mp k
  have ppk := Pm.pw k (Pm.range rs.sum) pp
  have ld3 : ∀ h, f_law_led [tD one, tD (pw k (List.range rs.sum) (mpP rs ts sk p))] h = .ok (tD (ledL one (pw k (List.range rs.sum) (mpP rs ts sk p)))) h := fun h => l_led ppk h1.mp.len sm
  have oT : OkS ts.length sk.length 3 (.times k p) := by rw [OkS]; exact ⟨hk', lp, op⟩
  have a4 : ∀ h, f_skipped_after [flD rs ts, skD sk, tD one, .tup [.tup [.str "times", nD k, pnD p]]] h = .ok (tD (ledL one (pw k (List.range rs.sum) (mpP rs ts sk p)))) h := fun h => by
    have := skipped_after (h := h) o ok h1 (d := 3) (by omega) (p := [.times k p]) ⟨by simp, fun s hs => by simp at hs; rw [hs]; exact oT⟩
    rw [mpP_one o oT, mpS] at this
    have e : pnD [.times k p] = .tup [.tup [.str "times", nD k, pnD p]] := by
      rw [pnD, List.map_cons, List.map_nil, stD_times]
    rw [e] at this
    exact this
  have sa3 := sa _ (ledL_pm h1 ppk)
  obtain ⟨pl, G8, opl, lpl, e8⟩ := l_plan (sk := []) o (by simp) 6 2 4 (by omega) (by omega) G7 []
  simp only [List.append_nil] at e8
  have e8' : f_law_plan 6 [.ref 1, tabD rs ts, .tup [], .int 2, .int 4] (deckC G7) = .ok (pnD pl) (deckC G8) := e8
  have oL : OkP ts.length 0 2 pl := ⟨by omega, opl⟩
  have a5 : ∀ h, f_skipped_after [flD rs ts, skD sk, tD one, pnD pl] h = .ok (tD (ledL one (mpP rs ts sk pl))) h := fun h => skipped_after o ok h1 (by omega) (oL.more (Nat.zero_le _))
  have a6 : ∀ h, f_after [flD rs ts, tD one, pnD pl] h = .ok (tD (ledL one (mpP rs ts sk pl))) h := fun h => after_ o h1 (by omega) oL
  have sa4 := sa _ (ledL_pm h1 (mpP_pm (sk := sk) o (oL.more (Nat.zero_le _))))
  have okE := ok_oneEach o
  have okA := ok_stepAll (ts := ts) o
  have pm0 := callL_pm o (c := []) (by simp)
  have a7 : ∀ h, f_skipped_after [flD rs ts, .tup ((List.range rs.length).map fun u => .tup [nD u, .int 1]), tD one, .tup ((List.range rs.length).map fun u => .tup [.str "skip", nD u])] h = .ok (tD (ledL one (callL rs ts []))) h := fun h => by
    have := skipped_after (h := h) o okE h1 (by omega) okA
    rw [mp_stepAll o] at this
    have x1 : skD (oneEach rs.length) = .tup ((List.range rs.length).map fun u => .tup [nD u, .int 1]) := by
      unfold skD oneEach
      rw [List.map_map]; rfl
    have x2 : pnD (stepAll rs.length) = .tup ((List.range rs.length).map fun u => .tup [.str "skip", nD u]) := by
      unfold pnD stepAll
      rw [List.map_map]
      congr 1
    rw [x1, x2] at this
    exact this
  have oB : OkS ts.length 0 0 (.beat []) := by rw [OkS]; exact ⟨List.Pairwise.nil, by simp, by simp⟩
  have a8 : ∀ h, f_after [flD rs ts, tD one, .tup [.tup [.str "beat", .tup []]]] h = .ok (tD (ledL one (callL rs ts []))) h := fun h => by
    have := after_ (h := h) (sk := []) o h1 (d := 0) (by omega) (p := [.beat []]) ⟨by simp, fun s hs => by simp at hs; rw [hs]; exact oB⟩
    rw [mpP_one (sk := []) o (d := 0) oB, mpS] at this
    have e : pnD [.beat []] = .tup [.tup [.str "beat", .tup []]] := by
      rw [pnD, List.map_cons, List.map_nil, stD_beat]; rfl
    rw [e] at this
    exact this
  have sa5 := sa _ (ledL_pm h1 pm0)
  obtain ⟨G9, e9⟩ := l_round o ok h1 G8
  have ln : ∀ h, lenF [rgsD rs] h = .ok (nD rs.length) h := fun h => by simp [lenF, seqOf, rgsD, nD]
  have rg : ∀ (m : Mi.Loc) (h : Cells), m.v[2]? = some (some (flD rs ts)) → I_rng (A_cons (E_fn lenF (A_cons (E_idx (E_var 2) (E_c (.int 0))) A_nil)) A_nil) m h = .ok ((List.range rs.length).map nD) h := fun m h hm =>
    I_rng_st _ (by have := o.l2; omega) (by simp -implicitDefEqProofs [hm, idx_fl0, ln])
  have lc1 : ∀ (m : Mi.Loc) (h : Cells), lcGo (G_name 14) T_yes (E_tup (A_cons (E_var 14) (A_cons (E_c (.int 1)) A_nil))) ⟨m.base, [m.v.getD 0 none, m.v.getD 1 none, m.v.getD 2 none, m.v.getD 3 none, m.v.getD 4 none, m.v.getD 5 none, m.v.getD 6 none, m.v.getD 7 none, m.v.getD 8 none, m.v.getD 9 none, m.v.getD 10 none, m.v.getD 11 none, m.v.getD 12 none, m.v.getD 13 none, none]⟩ ((List.range rs.length).map nD) [] h = .ok ([] ++ (List.range rs.length).map fun u => .tup [nD u, .int 1]) h := fun m h =>
    lcGo_k nD _ _ [] (by simp; have := o.l2; omega) (fun u hu K N => by simp [lcTurn])
  have lc2 : ∀ (m : Mi.Loc) (h : Cells), lcGo (G_name 14) T_yes (E_tup (A_cons (E_c (.str "skip")) (A_cons (E_var 14) A_nil))) ⟨m.base, [m.v.getD 0 none, m.v.getD 1 none, m.v.getD 2 none, m.v.getD 3 none, m.v.getD 4 none, m.v.getD 5 none, m.v.getD 6 none, m.v.getD 7 none, m.v.getD 8 none, m.v.getD 9 none, m.v.getD 10 none, m.v.getD 11 none, m.v.getD 12 none, m.v.getD 13 none, none]⟩ ((List.range rs.length).map nD) [] h = .ok ([] ++ (List.range rs.length).map fun u => .tup [.str "skip", nD u]) h := fun m h =>
    lcGo_k nD _ _ [] (by simp; have := o.l2; omega) (fun u hu K N => by simp [lcTurn])
  have lc1' : ∀ (b : Nat) (x0 x1 x2 x3 x4 x5 x6 x7 x8 x9 x10 x11 x12 x13 : Option D) (h : Cells), lcGo (G_name 14) T_yes (E_tup (A_cons (E_var 14) (A_cons (E_c (.int 1)) A_nil))) ⟨b, [x0, x1, x2, x3, x4, x5, x6, x7, x8, x9, x10, x11, x12, x13, none]⟩ ((List.range rs.length).map nD) [] h = .ok ((List.range rs.length).map fun u => .tup [nD u, .int 1]) h := fun b x0 x1 x2 x3 x4 x5 x6 x7 x8 x9 x10 x11 x12 x13 h => lc1 ⟨b, [x0, x1, x2, x3, x4, x5, x6, x7, x8, x9, x10, x11, x12, x13, none]⟩ h
  have lc2' : ∀ (b : Nat) (x0 x1 x2 x3 x4 x5 x6 x7 x8 x9 x10 x11 x12 x13 : Option D) (h : Cells), lcGo (G_name 14) T_yes (E_tup (A_cons (E_c (.str "skip")) (A_cons (E_var 14) A_nil))) ⟨b, [x0, x1, x2, x3, x4, x5, x6, x7, x8, x9, x10, x11, x12, x13, none]⟩ ((List.range rs.length).map nD) [] h = .ok ((List.range rs.length).map fun u => .tup [.str "skip", nD u]) h := fun b x0 x1 x2 x3 x4 x5 x6 x7 x8 x9 x10 x11 x12 x13 h => lc2 ⟨b, [x0, x1, x2, x3, x4, x5, x6, x7, x8, x9, x10, x11, x12, x13, none]⟩ h
  generalize ledL one (mpP rs ts sk pl) = r5 at *
  generalize ledL one (callL rs ts []) = r6 at *
  generalize ledL one (pw k (List.range rs.sum) (mpP rs ts sk p)) = r4 at *
  generalize pw k (List.range rs.sum) (mpP rs ts sk p) = r3 at *
  generalize ledL (ledL one (mpP rs ts sk p)) (mpP rs ts sk q) = r2 at *
  generalize ledL one (mpP rs ts sk p) = r1 at *
  generalize mpP rs ts sk p = m1 at *
  generalize mpP rs ts sk q = m2 at *
  have B : b_f_law ⟨0, argsL 15 [.scr (ns.map D.int)]⟩ [] = .ok (.rt (.bl true)) (deckC G9) := by
    have q : argsL 15 [.scr (ns.map D.int)] = [some (.scr (ns.map D.int)), none, none, none, none, none, none, none, none, none, none, none, none, none, none] := rfl
    rw [q]
    simp -implicitDefEqProofs [-I_rng_ap, b_f_law, e0, e1', e2', tb, idx_fl0, e3, tab_places, ll, e4, e5', e6', mp, mq, ld1, ld2, a1, a2, a3, ap, sa1, sa2, pw6, e7', pk, ld3, a4, sa3, e8', a5, a6, sa4, rg, lc1', lc2', tupleF_lst, a7, a8, sa5, e9, E_fnK, permL]
  have R := mkFn_rt' (h := []) (p := 1) (n := 15) (body := b_f_law) rfl B rfl
  exact ⟨_, R⟩
end
end K78

/-! K78: the end, printed by gen.py -/
namespace K78
open PySem PySem.Spec PyProof.Rows L2 Mi
theorem all_mk {l : PySem.W.OpenLaw} {w : World} {K : PySem.W.Frag} {h : Heap} {mg : Str → Option Value} {fa : Addr} (X : K.In h) (G : h.Ns mainGlobals mg) (hfa : mg "law" = some (.ref fa))
    {f0 : Addr} (h0 : HasDef K "_law_deck" (topS 54) .none f0)
    {f1 : Addr} (h1 : HasDef K "_law_places" (topS 60) .none f1)
    {f2 : Addr} (h2 : HasDef K "_law_draw" (topS 55) .none f2)
    {f3 : Addr} (h3 : HasDef K "_law_pick" (topS 56) .none f3)
    {f4 : Addr} (h4 : HasDef K "_law_touched" (topS 62) .none f4)
    {f5 : Addr} (h5 : HasDef K "_law_order" (topS 58) .none f5)
    {f6 : Addr} (h6 : HasDef K "_law_floor" (topS 63) .none f6)
    {f7 : Addr} (h7 : HasDef K "_law_led" (topS 67) .none f7)
    {f8 : Addr} (h8 : HasDef K "_law_call" (topS 70) .none f8)
    {f9 : Addr} (h9 : HasDef K "_law_plan" (topS 71) .none f9)
    {f10 : Addr} (h10 : HasDef K "is_pair" (topS 11) .none f10)
    {f11 : Addr} (h11 : HasDef K "is_integer" (topS 8) .none f11)
    {f12 : Addr} (h12 : HasDef K "is_from" (topS 9) .none f12)
    {f13 : Addr} (h13 : HasDef K "are_rings_value" (topS 12) .none f13)
    {f14 : Addr} (h14 : HasDef K "is_between" (topS 10) .none f14)
    {f15 : Addr} (h15 : HasDef K "is_place_of" (topS 13) .none f15)
    {f16 : Addr} (h16 : HasDef K "is_touch_of" (topS 14) .none f16)
    {f17 : Addr} (h17 : HasDef K "are_touches_of" (topS 15) .none f17)
    {f18 : Addr} (h18 : HasDef K "is_floor_value" (topS 16) .none f18)
    {f19 : Addr} (h19 : HasDef K "need_floor" (topS 17) .none f19)
    {f20 : Addr} (h20 : HasDef K "is_skip_of" (topS 41) .none f20)
    {f21 : Addr} (h21 : HasDef K "are_skips_value" (topS 42) .none f21)
    {f22 : Addr} (h22 : HasDef K "need_skips" (topS 49) .none f22)
    {f23 : Addr} (h23 : HasDef K "is_arrangement_value" (topS 26) .none f23)
    {f24 : Addr} (h24 : HasDef K "need_arrangement" (topS 27) .none f24)
    {f25 : Addr} (h25 : HasDef K "arranged" (topS 37) .none f25)
    {f26 : Addr} (h26 : HasDef K "is_call" (topS 28) .none f26)
    {f27 : Addr} (h27 : HasDef K "is_skip_step" (topS 43) .none f27)
    {f28 : Addr} (h28 : HasDef K "is_skip_plan" (topS 44) .none f28)
    {f29 : Addr} (h29 : HasDef K "followed" (topS 32) .none f29)
    {f30 : Addr} (h30 : HasDef K "map_power" (topS 33) .none f30)
    {f31 : Addr} (h31 : HasDef K "places_of" (topS 18) .none f31)
    {f32 : Addr} (h32 : HasDef K "seat_of" (topS 19) .none f32)
    {f33 : Addr} (h33 : HasDef K "place_behind" (topS 20) .none f33)
    {f34 : Addr} (h34 : HasDef K "skip_map" (topS 45) .none f34)
    {f35 : Addr} (h35 : HasDef K "seat_touches" (topS 22) .none f35)
    {f36 T36 : Addr} {o36 : Obj} {t36 : Tok} {n36 : Nat} (h36 : HasDef K "step_seats" (topS 21) (.ref T36) f36) (lT36 : K.lookup T36 = some o36) (oT36 : o36.data = .seq [Value.int 1 t36].toArray n36)
    {f37 : Addr} (h37 : HasDef K "call_map" (topS 34) .none f37)
    {f38 : Addr} (h38 : HasDef K "step_skipped" (topS 46) .none f38)
    {f39 : Addr} (h39 : HasDef K "map_skipped" (topS 47) .none f39)
    {f40 : Addr} (h40 : HasDef K "skipped_after" (topS 50) .none f40)
    {f41 : Addr} (h41 : HasDef K "_law_same" (topS 57) .none f41)
    {f42 : Addr} (h42 : HasDef K "_law_gcd" (topS 59) .none f42)
    {f43 : Addr} (h43 : HasDef K "_law_is_round" (topS 73) .none f43)
    {f44 : Addr} (h44 : HasDef K "_law_table" (topS 61) .none f44)
    {f45 : Addr} (h45 : HasDef K "_law_skips" (topS 72) .none f45)
    {f46 : Addr} (h46 : HasDef K "_law_then" (topS 65) .none f46)
    {f47 : Addr} (h47 : HasDef K "_law_beat" (topS 64) .none f47)
    {f48 : Addr} (h48 : HasDef K "_law_power" (topS 66) .none f48)
    {f49 : Addr} (h49 : HasDef K "_law_skip" (topS 68) .none f49)
    {f50 : Addr} (h50 : HasDef K "_law_map" (topS 69) .none f50)
    {f51 : Addr} (h51 : HasDef K "is_step" (topS 29) .none f51)
    {f52 : Addr} (h52 : HasDef K "is_plan_value" (topS 30) .none f52)
    {f53 : Addr} (h53 : HasDef K "need_plan" (topS 31) .none f53)
    {f54 : Addr} (h54 : HasDef K "step_map" (topS 35) .none f54)
    {f55 : Addr} (h55 : HasDef K "map_of" (topS 36) .none f55)
    {f56 : Addr} (h56 : HasDef K "after" (topS 52) .none f56)
    {f57 : Addr} (h57 : HasDef K "law" (topS 74) .none f57)
    (z_all : PySem.W.nsIn K mainGlobals "all" = some none)
    (z_bool : PySem.W.nsIn K mainGlobals "bool" = some none)
    (z_dict : PySem.W.nsIn K mainGlobals "dict" = some none)
    (z_enumerate : PySem.W.nsIn K mainGlobals "enumerate" = some none)
    (z_int : PySem.W.nsIn K mainGlobals "int" = some none)
    (z_isinstance : PySem.W.nsIn K mainGlobals "isinstance" = some none)
    (z_len : PySem.W.nsIn K mainGlobals "len" = some none)
    (z_list : PySem.W.nsIn K mainGlobals "list" = some none)
    (z_max : PySem.W.nsIn K mainGlobals "max" = some none)
    (z_min : PySem.W.nsIn K mainGlobals "min" = some none)
    (z_range : PySem.W.nsIn K mainGlobals "range" = some none)
    (z_set : PySem.W.nsIn K mainGlobals "set" = some none)
    (z_sorted : PySem.W.nsIn K mainGlobals "sorted" = some none)
    (z_str : PySem.W.nsIn K mainGlobals "str" = some none)
    (z_sum : PySem.W.nsIn K mainGlobals "sum" = some none)
    (z_tuple : PySem.W.nsIn K mainGlobals "tuple" = some none)
    (z_zip : PySem.W.nsIn K mainGlobals "zip" = some none)
    {t_BEAT : Tok} (q_BEAT : PySem.W.nsIn K mainGlobals "BEAT" = some (some (.str "beat" t_BEAT)))
    {t_MOST_RINGS : Tok} (q_MOST_RINGS : PySem.W.nsIn K mainGlobals "MOST_RINGS" = some (some (.int 40 t_MOST_RINGS)))
    {t_MOST_SKIP : Tok} (q_MOST_SKIP : PySem.W.nsIn K mainGlobals "MOST_SKIP" = some (some (.int 1000 t_MOST_SKIP)))
    {t_SKIP : Tok} (q_SKIP : PySem.W.nsIn K mainGlobals "SKIP" = some (some (.str "skip" t_SKIP)))
    {t_TIMES : Tok} (q_TIMES : PySem.W.nsIn K mainGlobals "TIMES" = some (some (.str "times" t_TIMES)))
    : ∃ fd : FuncData, (∀ (s : Shared) (v : Value), BindsTo s fd ⟨[v], []⟩ [("_law_script", v)]) ∧ ∀ base : Heap, K.In base → base.Ns mainGlobals mg → FnOk l.prog w K mg base C8.CX0 20 fa fd ["_law_script"] (spLaw K) := by
  have g : Top K mg := by
    refine ⟨PySem.W.mg_none_of X G z_all, PySem.W.mg_none_of X G z_bool, PySem.W.mg_none_of X G z_dict, PySem.W.mg_none_of X G z_enumerate, PySem.W.mg_none_of X G z_int, PySem.W.mg_none_of X G z_isinstance, PySem.W.mg_none_of X G z_len, PySem.W.mg_none_of X G z_list, PySem.W.mg_none_of X G z_max, PySem.W.mg_none_of X G z_min, PySem.W.mg_none_of X G z_range, PySem.W.mg_none_of X G z_set, PySem.W.mg_none_of X G z_sorted, PySem.W.mg_none_of X G z_str, PySem.W.mg_none_of X G z_sum, PySem.W.mg_none_of X G z_tuple, PySem.W.mg_none_of X G z_zip, ⟨_, PySem.W.mg_of X G q_BEAT⟩, ⟨_, PySem.W.mg_of X G q_MOST_RINGS⟩, ⟨_, PySem.W.mg_of X G q_MOST_SKIP⟩, ⟨_, PySem.W.mg_of X G q_SKIP⟩, ⟨_, PySem.W.mg_of X G q_TIMES⟩, ?_, ?_, ?_, ?_, ?_, ?_, ?_, ?_, ?_, ?_, ?_, ?_, ?_, ?_, ?_, ?_, ?_, ?_, ?_, ?_, ?_, ?_, ?_, ?_, ?_, ?_, ?_, ?_, ?_, ?_, ?_, ?_, ?_, ?_, ?_, ?_, ?_, ?_, ?_, ?_, ?_, ?_, ?_, ?_, ?_, ?_, ?_, ?_, ?_, ?_, ?_, ?_, ?_, ?_, ?_, ?_, ?_⟩
    · obtain ⟨kV, doc, pm, an, cdv, ct, D⟩ := h0.get X G
      exact ⟨_, _, D, D.fn.binds rfl fun _ _ _ _ _ _ us hl => match us, hl with | [_, _], _ => rfl⟩
    · obtain ⟨kV, doc, pm, an, cdv, ct, D⟩ := h1.get X G
      exact ⟨_, _, D, D.fn.binds rfl fun _ _ _ _ _ _ us hl => match us, hl with | [_], _ => rfl⟩
    · obtain ⟨kV, doc, pm, an, cdv, ct, D⟩ := h2.get X G
      exact ⟨_, _, D, D.fn.binds rfl fun _ _ _ _ _ _ us hl => match us, hl with | [_, _], _ => rfl⟩
    · obtain ⟨kV, doc, pm, an, cdv, ct, D⟩ := h3.get X G
      exact ⟨_, _, D, D.fn.binds rfl fun _ _ _ _ _ _ us hl => match us, hl with | [_, _], _ => rfl⟩
    · obtain ⟨kV, doc, pm, an, cdv, ct, D⟩ := h4.get X G
      exact ⟨_, _, D, D.fn.binds rfl fun _ _ _ _ _ _ us hl => match us, hl with | [_, _, _], _ => rfl⟩
    · obtain ⟨kV, doc, pm, an, cdv, ct, D⟩ := h5.get X G
      exact ⟨_, _, D, D.fn.binds rfl fun _ _ _ _ _ _ us hl => match us, hl with | [_, _], _ => rfl⟩
    · obtain ⟨kV, doc, pm, an, cdv, ct, D⟩ := h6.get X G
      exact ⟨_, _, D, D.fn.binds rfl fun _ _ _ _ _ _ us hl => match us, hl with | [_, _, _], _ => rfl⟩
    · obtain ⟨kV, doc, pm, an, cdv, ct, D⟩ := h7.get X G
      exact ⟨_, _, D, D.fn.binds rfl fun _ _ _ _ _ _ us hl => match us, hl with | [_, _], _ => rfl⟩
    · obtain ⟨kV, doc, pm, an, cdv, ct, D⟩ := h8.get X G
      exact ⟨_, _, D, D.fn.binds rfl fun _ _ _ _ _ _ us hl => match us, hl with | [_, _], _ => rfl⟩
    · obtain ⟨kV, doc, pm, an, cdv, ct, D⟩ := h9.get X G
      exact ⟨_, _, D, D.fn.binds rfl fun _ _ _ _ _ _ us hl => match us, hl with | [_, _, _, _, _], _ => rfl⟩
    · obtain ⟨kV, doc, pm, an, cdv, ct, D⟩ := h10.get X G
      exact ⟨_, _, D, D.fn.binds rfl fun _ _ _ _ _ _ us hl => match us, hl with | [_], _ => rfl⟩
    · obtain ⟨kV, doc, pm, an, cdv, ct, D⟩ := h11.get X G
      exact ⟨_, _, D, D.fn.binds rfl fun _ _ _ _ _ _ us hl => match us, hl with | [_], _ => rfl⟩
    · obtain ⟨kV, doc, pm, an, cdv, ct, D⟩ := h12.get X G
      exact ⟨_, _, D, D.fn.binds rfl fun _ _ _ _ _ _ us hl => match us, hl with | [_, _], _ => rfl⟩
    · obtain ⟨kV, doc, pm, an, cdv, ct, D⟩ := h13.get X G
      exact ⟨_, _, D, D.fn.binds rfl fun _ _ _ _ _ _ us hl => match us, hl with | [_], _ => rfl⟩
    · obtain ⟨kV, doc, pm, an, cdv, ct, D⟩ := h14.get X G
      exact ⟨_, _, D, D.fn.binds rfl fun _ _ _ _ _ _ us hl => match us, hl with | [_, _, _], _ => rfl⟩
    · obtain ⟨kV, doc, pm, an, cdv, ct, D⟩ := h15.get X G
      exact ⟨_, _, D, D.fn.binds rfl fun _ _ _ _ _ _ us hl => match us, hl with | [_, _], _ => rfl⟩
    · obtain ⟨kV, doc, pm, an, cdv, ct, D⟩ := h16.get X G
      exact ⟨_, _, D, D.fn.binds rfl fun _ _ _ _ _ _ us hl => match us, hl with | [_, _], _ => rfl⟩
    · obtain ⟨kV, doc, pm, an, cdv, ct, D⟩ := h17.get X G
      exact ⟨_, _, D, D.fn.binds rfl fun _ _ _ _ _ _ us hl => match us, hl with | [_, _], _ => rfl⟩
    · obtain ⟨kV, doc, pm, an, cdv, ct, D⟩ := h18.get X G
      exact ⟨_, _, D, D.fn.binds rfl fun _ _ _ _ _ _ us hl => match us, hl with | [_], _ => rfl⟩
    · obtain ⟨kV, doc, pm, an, cdv, ct, D⟩ := h19.get X G
      exact ⟨_, _, D, D.fn.binds rfl fun _ _ _ _ _ _ us hl => match us, hl with | [_], _ => rfl⟩
    · obtain ⟨kV, doc, pm, an, cdv, ct, D⟩ := h20.get X G
      exact ⟨_, _, D, D.fn.binds rfl fun _ _ _ _ _ _ us hl => match us, hl with | [_, _], _ => rfl⟩
    · obtain ⟨kV, doc, pm, an, cdv, ct, D⟩ := h21.get X G
      exact ⟨_, _, D, D.fn.binds rfl fun _ _ _ _ _ _ us hl => match us, hl with | [_, _], _ => rfl⟩
    · obtain ⟨kV, doc, pm, an, cdv, ct, D⟩ := h22.get X G
      exact ⟨_, _, D, D.fn.binds rfl fun _ _ _ _ _ _ us hl => match us, hl with | [_, _], _ => rfl⟩
    · obtain ⟨kV, doc, pm, an, cdv, ct, D⟩ := h23.get X G
      exact ⟨_, _, D, D.fn.binds rfl fun _ _ _ _ _ _ us hl => match us, hl with | [_, _], _ => rfl⟩
    · obtain ⟨kV, doc, pm, an, cdv, ct, D⟩ := h24.get X G
      exact ⟨_, _, D, D.fn.binds rfl fun _ _ _ _ _ _ us hl => match us, hl with | [_, _], _ => rfl⟩
    · obtain ⟨kV, doc, pm, an, cdv, ct, D⟩ := h25.get X G
      exact ⟨_, _, D, D.fn.binds rfl fun _ _ _ _ _ _ us hl => match us, hl with | [_, _], _ => rfl⟩
    · obtain ⟨kV, doc, pm, an, cdv, ct, D⟩ := h26.get X G
      exact ⟨_, _, D, D.fn.binds rfl fun _ _ _ _ _ _ us hl => match us, hl with | [_, _], _ => rfl⟩
    · obtain ⟨kV, doc, pm, an, cdv, ct, D⟩ := h27.get X G
      exact ⟨_, _, D, D.fn.binds rfl fun _ _ _ _ _ _ us hl => match us, hl with | [_, _, _], _ => rfl⟩
    · obtain ⟨kV, doc, pm, an, cdv, ct, D⟩ := h28.get X G
      exact ⟨_, _, D, D.fn.binds rfl fun _ _ _ _ _ _ us hl => match us, hl with | [_, _, _], _ => rfl⟩
    · obtain ⟨kV, doc, pm, an, cdv, ct, D⟩ := h29.get X G
      exact ⟨_, _, D, D.fn.binds rfl fun _ _ _ _ _ _ us hl => match us, hl with | [_, _], _ => rfl⟩
    · obtain ⟨kV, doc, pm, an, cdv, ct, D⟩ := h30.get X G
      exact ⟨_, _, D, D.fn.binds rfl fun _ _ _ _ _ _ us hl => match us, hl with | [_, _], _ => rfl⟩
    · obtain ⟨kV, doc, pm, an, cdv, ct, D⟩ := h31.get X G
      exact ⟨_, _, D, D.fn.binds rfl fun _ _ _ _ _ _ us hl => match us, hl with | [_], _ => rfl⟩
    · obtain ⟨kV, doc, pm, an, cdv, ct, D⟩ := h32.get X G
      exact ⟨_, _, D, D.fn.binds rfl fun _ _ _ _ _ _ us hl => match us, hl with | [_, _], _ => rfl⟩
    · obtain ⟨kV, doc, pm, an, cdv, ct, D⟩ := h33.get X G
      exact ⟨_, _, D, D.fn.binds rfl fun _ _ _ _ _ _ us hl => match us, hl with | [_, _, _], _ => rfl⟩
    · obtain ⟨kV, doc, pm, an, cdv, ct, D⟩ := h34.get X G
      exact ⟨_, _, D, D.fn.binds rfl fun _ _ _ _ _ _ us hl => match us, hl with | [_, _], _ => rfl⟩
    · obtain ⟨kV, doc, pm, an, cdv, ct, D⟩ := h35.get X G
      exact ⟨_, _, D, D.fn.binds rfl fun _ _ _ _ _ _ us hl => match us, hl with | [_], _ => rfl⟩
    · obtain ⟨kV, doc, pm, an, cdv, ct, D⟩ := h36.get X G
      exact ⟨_, _, D, bindsD_of 1 lT36 oT36 (.cons ⟨_, rfl⟩ .nil) rfl fun us hl => match us, hl with | [_], _ => ⟨_, rfl, rfl⟩⟩
    · obtain ⟨kV, doc, pm, an, cdv, ct, D⟩ := h37.get X G
      exact ⟨_, _, D, D.fn.binds rfl fun _ _ _ _ _ _ us hl => match us, hl with | [_, _], _ => rfl⟩
    · obtain ⟨kV, doc, pm, an, cdv, ct, D⟩ := h38.get X G
      exact ⟨_, _, D, D.fn.binds rfl fun _ _ _ _ _ _ us hl => match us, hl with | [_, _, _], _ => rfl⟩
    · obtain ⟨kV, doc, pm, an, cdv, ct, D⟩ := h39.get X G
      exact ⟨_, _, D, D.fn.binds rfl fun _ _ _ _ _ _ us hl => match us, hl with | [_, _, _], _ => rfl⟩
    · obtain ⟨kV, doc, pm, an, cdv, ct, D⟩ := h40.get X G
      exact ⟨_, _, D, D.fn.binds rfl fun _ _ _ _ _ _ us hl => match us, hl with | [_, _, _, _], _ => rfl, bindsK_of fun ws hl => match ws, hl with | [_, _, _, _], _ => rfl⟩
    · obtain ⟨kV, doc, pm, an, cdv, ct, D⟩ := h41.get X G
      exact ⟨_, _, D, D.fn.binds rfl fun _ _ _ _ _ _ us hl => match us, hl with | [_, _], _ => rfl⟩
    · obtain ⟨kV, doc, pm, an, cdv, ct, D⟩ := h42.get X G
      exact ⟨_, _, D, D.fn.binds rfl fun _ _ _ _ _ _ us hl => match us, hl with | [_, _], _ => rfl⟩
    · obtain ⟨kV, doc, pm, an, cdv, ct, D⟩ := h43.get X G
      exact ⟨_, _, D, D.fn.binds rfl fun _ _ _ _ _ _ us hl => match us, hl with | [_, _, _, _], _ => rfl⟩
    · obtain ⟨kV, doc, pm, an, cdv, ct, D⟩ := h44.get X G
      exact ⟨_, _, D, D.fn.binds rfl fun _ _ _ _ _ _ us hl => match us, hl with | [_], _ => rfl⟩
    · obtain ⟨kV, doc, pm, an, cdv, ct, D⟩ := h45.get X G
      exact ⟨_, _, D, D.fn.binds rfl fun _ _ _ _ _ _ us hl => match us, hl with | [_, _, _], _ => rfl⟩
    · obtain ⟨kV, doc, pm, an, cdv, ct, D⟩ := h46.get X G
      exact ⟨_, _, D, D.fn.binds rfl fun _ _ _ _ _ _ us hl => match us, hl with | [_, _], _ => rfl⟩
    · obtain ⟨kV, doc, pm, an, cdv, ct, D⟩ := h47.get X G
      exact ⟨_, _, D, D.fn.binds rfl fun _ _ _ _ _ _ us hl => match us, hl with | [_, _], _ => rfl⟩
    · obtain ⟨kV, doc, pm, an, cdv, ct, D⟩ := h48.get X G
      exact ⟨_, _, D, D.fn.binds rfl fun _ _ _ _ _ _ us hl => match us, hl with | [_, _], _ => rfl⟩
    · obtain ⟨kV, doc, pm, an, cdv, ct, D⟩ := h49.get X G
      exact ⟨_, _, D, D.fn.binds rfl fun _ _ _ _ _ _ us hl => match us, hl with | [_, _, _], _ => rfl⟩
    · obtain ⟨kV, doc, pm, an, cdv, ct, D⟩ := h50.get X G
      exact ⟨_, _, D, D.fn.binds rfl fun _ _ _ _ _ _ us hl => match us, hl with | [_, _, _], _ => rfl⟩
    · obtain ⟨kV, doc, pm, an, cdv, ct, D⟩ := h51.get X G
      exact ⟨_, _, D, D.fn.binds rfl fun _ _ _ _ _ _ us hl => match us, hl with | [_, _], _ => rfl⟩
    · obtain ⟨kV, doc, pm, an, cdv, ct, D⟩ := h52.get X G
      exact ⟨_, _, D, D.fn.binds rfl fun _ _ _ _ _ _ us hl => match us, hl with | [_, _], _ => rfl⟩
    · obtain ⟨kV, doc, pm, an, cdv, ct, D⟩ := h53.get X G
      exact ⟨_, _, D, D.fn.binds rfl fun _ _ _ _ _ _ us hl => match us, hl with | [_, _], _ => rfl⟩
    · obtain ⟨kV, doc, pm, an, cdv, ct, D⟩ := h54.get X G
      exact ⟨_, _, D, D.fn.binds rfl fun _ _ _ _ _ _ us hl => match us, hl with | [_, _], _ => rfl⟩
    · obtain ⟨kV, doc, pm, an, cdv, ct, D⟩ := h55.get X G
      exact ⟨_, _, D, D.fn.binds rfl fun _ _ _ _ _ _ us hl => match us, hl with | [_, _], _ => rfl⟩
    · obtain ⟨kV, doc, pm, an, cdv, ct, D⟩ := h56.get X G
      exact ⟨_, _, D, D.fn.binds rfl fun _ _ _ _ _ _ us hl => match us, hl with | [_, _, _], _ => rfl⟩
  obtain ⟨kV, doc, pm, an, cdv, ct, D⟩ := h57.get X G
  have e := hfa.symm.trans (PySem.W.mg_of X G h57.ns)
  cases e
  exact ⟨_, fun s v => .of_eq rfl, fun base _ _ => ((c_all g D).fn).imp fun vs H Q E q => law_sp law_true vs H Q E q⟩
end K78
open PySem PySem.W PyProof.Rows
set_option maxHeartbeats 0 in
theorem PySem.Challenge.cw_touchrings_k78_skip_plans_done_holds : PySem.Challenge.rw_touchrings_k78_skip_plans_done.Holds := by
  w_on; o_law; k_head; (case hw => w_witness2)
  k_fill
  refine L2.walk_of (l := PySem.Challenge.rw_touchrings_k78_skip_plans_done) (n := 63) (k := 20) (x := "_law_script") (CX := fun _ => C8.CX0) (sp := fun w => Mi.spLaw _) rfl (by decide) rfl ⟨rfl, by decide, by decide⟩ (fun w h Y => PySem.W.kIn_of Y) ?F (fun _ _ a ns hl _ hS => ⟨a, ns, rfl, hS, hl, fun _ => rfl⟩) (fun _ _ _ _ _ h => h)
  case F =>
    intro w mg fa h KX G hmg
    refine' K78.all_mk KX G hmg (.mk' ?a0 ?l0 ?c0 ?k0) (.mk' ?a1 ?l1 ?c1 ?k1) (.mk' ?a2 ?l2 ?c2 ?k2) (.mk' ?a3 ?l3 ?c3 ?k3) (.mk' ?a4 ?l4 ?c4 ?k4) (.mk' ?a5 ?l5 ?c5 ?k5) (.mk' ?a6 ?l6 ?c6 ?k6) (.mk' ?a7 ?l7 ?c7 ?k7) (.mk' ?a8 ?l8 ?c8 ?k8) (.mk' ?a9 ?l9 ?c9 ?k9) (.mk' ?a10 ?l10 ?c10 ?k10) (.mk' ?a11 ?l11 ?c11 ?k11) (.mk' ?a12 ?l12 ?c12 ?k12) (.mk' ?a13 ?l13 ?c13 ?k13) (.mk' ?a14 ?l14 ?c14 ?k14) (.mk' ?a15 ?l15 ?c15 ?k15) (.mk' ?a16 ?l16 ?c16 ?k16) (.mk' ?a17 ?l17 ?c17 ?k17) (.mk' ?a18 ?l18 ?c18 ?k18) (.mk' ?a19 ?l19 ?c19 ?k19) (.mk' ?a20 ?l20 ?c20 ?k20) (.mk' ?a21 ?l21 ?c21 ?k21) (.mk' ?a22 ?l22 ?c22 ?k22) (.mk' ?a23 ?l23 ?c23 ?k23) (.mk' ?a24 ?l24 ?c24 ?k24) (.mk' ?a25 ?l25 ?c25 ?k25) (.mk' ?a26 ?l26 ?c26 ?k26) (.mk' ?a27 ?l27 ?c27 ?k27) (.mk' ?a28 ?l28 ?c28 ?k28) (.mk' ?a29 ?l29 ?c29 ?k29) (.mk' ?a30 ?l30 ?c30 ?k30) (.mk' ?a31 ?l31 ?c31 ?k31) (.mk' ?a32 ?l32 ?c32 ?k32) (.mk' ?a33 ?l33 ?c33 ?k33) (.mk' ?a34 ?l34 ?c34 ?k34) (.mk' ?a35 ?l35 ?c35 ?k35) (.mk' ?a36 ?l36 ?c36 ?k36) ?lT36 ?oT36 (.mk' ?a37 ?l37 ?c37 ?k37) (.mk' ?a38 ?l38 ?c38 ?k38) (.mk' ?a39 ?l39 ?c39 ?k39) (.mk' ?a40 ?l40 ?c40 ?k40) (.mk' ?a41 ?l41 ?c41 ?k41) (.mk' ?a42 ?l42 ?c42 ?k42) (.mk' ?a43 ?l43 ?c43 ?k43) (.mk' ?a44 ?l44 ?c44 ?k44) (.mk' ?a45 ?l45 ?c45 ?k45) (.mk' ?a46 ?l46 ?c46 ?k46) (.mk' ?a47 ?l47 ?c47 ?k47) (.mk' ?a48 ?l48 ?c48 ?k48) (.mk' ?a49 ?l49 ?c49 ?k49) (.mk' ?a50 ?l50 ?c50 ?k50) (.mk' ?a51 ?l51 ?c51 ?k51) (.mk' ?a52 ?l52 ?c52 ?k52) (.mk' ?a53 ?l53 ?c53 ?k53) (.mk' ?a54 ?l54 ?c54 ?k54) (.mk' ?a55 ?l55 ?c55 ?k55) (.mk' ?a56 ?l56 ?c56 ?k56) (.mk' ?a57 ?l57 ?c57 ?k57) ?z_all ?z_bool ?z_dict ?z_enumerate ?z_int ?z_isinstance ?z_len ?z_list ?z_max ?z_min ?z_range ?z_set ?z_sorted ?z_str ?z_sum ?z_tuple ?z_zip ?q_BEAT ?q_MOST_RINGS ?q_MOST_SKIP ?q_SKIP ?q_TIMES
    (case a0 => k_is)
    (case l0 => k_is)
    (case c0 => k_is)
    (case k0 => k_is)
    (case a1 => k_is)
    (case l1 => k_is)
    (case c1 => k_is)
    (case k1 => k_is)
    (case a2 => k_is)
    (case l2 => k_is)
    (case c2 => k_is)
    (case k2 => k_is)
    (case a3 => k_is)
    (case l3 => k_is)
    (case c3 => k_is)
    (case k3 => k_is)
    (case a4 => k_is)
    (case l4 => k_is)
    (case c4 => k_is)
    (case k4 => k_is)
    (case a5 => k_is)
    (case l5 => k_is)
    (case c5 => k_is)
    (case k5 => k_is)
    (case a6 => k_is)
    (case l6 => k_is)
    (case c6 => k_is)
    (case k6 => k_is)
    (case a7 => k_is)
    (case l7 => k_is)
    (case c7 => k_is)
    (case k7 => k_is)
    (case a8 => k_is)
    (case l8 => k_is)
    (case c8 => k_is)
    (case k8 => k_is)
    (case a9 => k_is)
    (case l9 => k_is)
    (case c9 => k_is)
    (case k9 => k_is)
    (case a10 => k_is)
    (case l10 => k_is)
    (case c10 => k_is)
    (case k10 => k_is)
    (case a11 => k_is)
    (case l11 => k_is)
    (case c11 => k_is)
    (case k11 => k_is)
    (case a12 => k_is)
    (case l12 => k_is)
    (case c12 => k_is)
    (case k12 => k_is)
    (case a13 => k_is)
    (case l13 => k_is)
    (case c13 => k_is)
    (case k13 => k_is)
    (case a14 => k_is)
    (case l14 => k_is)
    (case c14 => k_is)
    (case k14 => k_is)
    (case a15 => k_is)
    (case l15 => k_is)
    (case c15 => k_is)
    (case k15 => k_is)
    (case a16 => k_is)
    (case l16 => k_is)
    (case c16 => k_is)
    (case k16 => k_is)
    (case a17 => k_is)
    (case l17 => k_is)
    (case c17 => k_is)
    (case k17 => k_is)
    (case a18 => k_is)
    (case l18 => k_is)
    (case c18 => k_is)
    (case k18 => k_is)
    (case a19 => k_is)
    (case l19 => k_is)
    (case c19 => k_is)
    (case k19 => k_is)
    (case a20 => k_is)
    (case l20 => k_is)
    (case c20 => k_is)
    (case k20 => k_is)
    (case a21 => k_is)
    (case l21 => k_is)
    (case c21 => k_is)
    (case k21 => k_is)
    (case a22 => k_is)
    (case l22 => k_is)
    (case c22 => k_is)
    (case k22 => k_is)
    (case a23 => k_is)
    (case l23 => k_is)
    (case c23 => k_is)
    (case k23 => k_is)
    (case a24 => k_is)
    (case l24 => k_is)
    (case c24 => k_is)
    (case k24 => k_is)
    (case a25 => k_is)
    (case l25 => k_is)
    (case c25 => k_is)
    (case k25 => k_is)
    (case a26 => k_is)
    (case l26 => k_is)
    (case c26 => k_is)
    (case k26 => k_is)
    (case a27 => k_is)
    (case l27 => k_is)
    (case c27 => k_is)
    (case k27 => k_is)
    (case a28 => k_is)
    (case l28 => k_is)
    (case c28 => k_is)
    (case k28 => k_is)
    (case a29 => k_is)
    (case l29 => k_is)
    (case c29 => k_is)
    (case k29 => k_is)
    (case a30 => k_is)
    (case l30 => k_is)
    (case c30 => k_is)
    (case k30 => k_is)
    (case a31 => k_is)
    (case l31 => k_is)
    (case c31 => k_is)
    (case k31 => k_is)
    (case a32 => k_is)
    (case l32 => k_is)
    (case c32 => k_is)
    (case k32 => k_is)
    (case a33 => k_is)
    (case l33 => k_is)
    (case c33 => k_is)
    (case k33 => k_is)
    (case a34 => k_is)
    (case l34 => k_is)
    (case c34 => k_is)
    (case k34 => k_is)
    (case a35 => k_is)
    (case l35 => k_is)
    (case c35 => k_is)
    (case k35 => k_is)
    (case a36 => k_is)
    (case l36 => k_is)
    (case c36 => k_is)
    (case k36 => k_is)
    (case lT36 => k_is)
    (case oT36 => first | rfl | k_is)
    (case a37 => k_is)
    (case l37 => k_is)
    (case c37 => k_is)
    (case k37 => k_is)
    (case a38 => k_is)
    (case l38 => k_is)
    (case c38 => k_is)
    (case k38 => k_is)
    (case a39 => k_is)
    (case l39 => k_is)
    (case c39 => k_is)
    (case k39 => k_is)
    (case a40 => k_is)
    (case l40 => k_is)
    (case c40 => k_is)
    (case k40 => k_is)
    (case a41 => k_is)
    (case l41 => k_is)
    (case c41 => k_is)
    (case k41 => k_is)
    (case a42 => k_is)
    (case l42 => k_is)
    (case c42 => k_is)
    (case k42 => k_is)
    (case a43 => k_is)
    (case l43 => k_is)
    (case c43 => k_is)
    (case k43 => k_is)
    (case a44 => k_is)
    (case l44 => k_is)
    (case c44 => k_is)
    (case k44 => k_is)
    (case a45 => k_is)
    (case l45 => k_is)
    (case c45 => k_is)
    (case k45 => k_is)
    (case a46 => k_is)
    (case l46 => k_is)
    (case c46 => k_is)
    (case k46 => k_is)
    (case a47 => k_is)
    (case l47 => k_is)
    (case c47 => k_is)
    (case k47 => k_is)
    (case a48 => k_is)
    (case l48 => k_is)
    (case c48 => k_is)
    (case k48 => k_is)
    (case a49 => k_is)
    (case l49 => k_is)
    (case c49 => k_is)
    (case k49 => k_is)
    (case a50 => k_is)
    (case l50 => k_is)
    (case c50 => k_is)
    (case k50 => k_is)
    (case a51 => k_is)
    (case l51 => k_is)
    (case c51 => k_is)
    (case k51 => k_is)
    (case a52 => k_is)
    (case l52 => k_is)
    (case c52 => k_is)
    (case k52 => k_is)
    (case a53 => k_is)
    (case l53 => k_is)
    (case c53 => k_is)
    (case k53 => k_is)
    (case a54 => k_is)
    (case l54 => k_is)
    (case c54 => k_is)
    (case k54 => k_is)
    (case a55 => k_is)
    (case l55 => k_is)
    (case c55 => k_is)
    (case k55 => k_is)
    (case a56 => k_is)
    (case l56 => k_is)
    (case c56 => k_is)
    (case k56 => k_is)
    (case a57 => k_is)
    (case l57 => k_is)
    (case c57 => k_is)
    (case k57 => k_is)
    (case z_all => k_is)
    (case z_bool => k_is)
    (case z_dict => k_is)
    (case z_enumerate => k_is)
    (case z_int => k_is)
    (case z_isinstance => k_is)
    (case z_len => k_is)
    (case z_list => k_is)
    (case z_max => k_is)
    (case z_min => k_is)
    (case z_range => k_is)
    (case z_set => k_is)
    (case z_sorted => k_is)
    (case z_str => k_is)
    (case z_sum => k_is)
    (case z_tuple => k_is)
    (case z_zip => k_is)
    (case q_BEAT => k_is)
    (case q_MOST_RINGS => k_is)
    (case q_MOST_SKIP => k_is)
    (case q_SKIP => k_is)
    (case q_TIMES => k_is)
